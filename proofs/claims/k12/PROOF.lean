import PyProof.Rows.All
import HandS.ForMost
import HandS.ForExc
import HandS.Deep
import HandS.TryMany
import HandS.TupAny
import HandS.Zip
import HandS.IsInst
import HandS.ExcInit
import HandS.TupLe
import HandS.TupMul
import HandS.Style
import HandS.ExcField
import HandS.Lambda
import HandS.Defaults
import HandS.HeadHook4
import HandS.HeadWalk
import HandS.Head0
import HandS.Head1
import HandS.Head2
import HandS.HeadEnd
import KE.GoesMore
import KE.GoesZip
import KE.GoesEnum
import HandS.Text
import KE.SortData
import KE.DataMinMax
import HandS.Conv
import PySem.Challenge.RW_plotwardens_k12_cores_of_programs
set_option Elab.async false
set_option linter.all false
set_option maxRecDepth 100000
set_option maxHeartbeats 4000000
/-! The data layer: values without addresses (D), the worlds in which they stand (RW), readings over them. -/
namespace DL
open PySem PySem.Spec PyProof.Rows L2

inductive D where
  | non
  | bl (b : Bool)
  | int (i : Int)
  | str (s : Str)
  | tup (xs : List D)
  | lst (xs : List D)
  | frz (xs : List D)
  | dct (kvs : List (Key × D))
  | obj (c : Str) (fs : List (Str × D))
  | raw (v : V)

/-- the written part, and what the module's names hold -/
structure Md where
  K : PySem.W.Frag
  mg : Str → Option Value
abbrev md (X : Cx) : Md := ⟨X.K, X.mg⟩

/-- a tuple: tracked, or of the written part -/
def Tq (K : PySem.W.Frag) (H : Hp) (a : Addr) (xs : List V) : Prop :=
  H a = some (.tup xs) ∨ ∃ (o : Obj) (its : Array Value) (n : Nat), K.lookup a = some o ∧ o.cls = .type "tuple" ∧ o.data = .seq its n ∧ its.size ≤ sizeLine ∧ Vals xs its.toList
theorem SqL.step {K : PySem.W.Frag} {H H' : Hp} {a : Addr} {xs : List V} (e : Same H H') (h : SqL K H a xs) : SqL K H' a xs := h.imp (fun z => z.imp (fun q => e _ _ q) fun ⟨o, q⟩ => ⟨o, e _ _ q⟩) id
theorem Tq.sqT {K : PySem.W.Frag} {H : Hp} {a : Addr} {xs : List V} (h : Tq K H a xs) : SqT K H a xs := h.imp .inl id
theorem Tq.mono {K : PySem.W.Frag} {H H' : Hp} {a : Addr} {xs : List V} (e : Same H H') (h : Tq K H a xs) : Tq K H' a xs := h.imp (e _ _) id
mutual
/-- the value v stands for the datum d, by what G holds -/
inductive Dp (M : Md) (G : Hp) : V → D → Prop
  | non : Dp M G .non .non
  | bl (b : Bool) : Dp M G (.bl b) (.bl b)
  | int (i : Int) : Dp M G (.int i) (.int i)
  | str (x : Str) : Dp M G (.str x) (.str x)
  | tup {a : Addr} {vs : List V} {ds : List D} : Tq M.K G a vs → DpAll M G vs ds → Dp M G (.ref a) (.tup ds)
  | lst {a : Addr} {vs : List V} {ds : List D} : G a = some (.lst vs) → DpAll M G vs ds → Dp M G (.ref a) (.lst ds)
  | frz {a : Addr} {vs : List V} {ds : List D} : SqL M.K G a vs → DpAll M G vs ds → Dp M G (.ref a) (.frz ds)
  | dct {a : Addr} {kvs : List (Key × V)} {ds : List (Key × D)} : G a = some (.dK kvs) → DpK M G kvs ds → Dp M G (.ref a) (.dct ds)
  | obj {a C dx : Addr} {c : Str} {fvs : List (Str × V)} {fs : List (Str × D)} : G a = some (.ins C dx fvs) → M.mg c = some (.ref C) → DpF M G fvs fs → Dp M G (.ref a) (.obj c fs)
  | raw (v : V) : Dp M G v (.raw v)
inductive DpAll (M : Md) (G : Hp) : List V → List D → Prop
  | nil : DpAll M G [] []
  | cons {v : V} {vs : List V} {d : D} {ds : List D} : Dp M G v d → DpAll M G vs ds → DpAll M G (v :: vs) (d :: ds)
inductive DpK (M : Md) (G : Hp) : List (Key × V) → List (Key × D) → Prop
  | nil : DpK M G [] []
  | cons {k : Key} {v : V} {vs : List (Key × V)} {d : D} {ds : List (Key × D)} : Dp M G v d → DpK M G vs ds → DpK M G ((k, v) :: vs) ((k, d) :: ds)
inductive DpF (M : Md) (G : Hp) : List (Str × V) → List (Str × D) → Prop
  | nil : DpF M G [] []
  | cons {k : Str} {v : V} {vs : List (Str × V)} {d : D} {ds : List (Str × D)} : Dp M G v d → DpF M G vs ds → DpF M G ((k, v) :: vs) ((k, d) :: ds)
end
mutual
theorem Dp.mono {M : Md} {G G' : Hp} (e : Same G G') : ∀ {v : V} {d : D}, Dp M G v d → Dp M G' v d
  | _, _, .non => .non
  | _, _, .bl b => .bl b
  | _, _, .int i => .int i
  | _, _, .str x => .str x
  | _, _, .tup h p => .tup (h.mono e) (DpAll.mono e p)
  | _, _, .lst h p => .lst (e _ _ h) (DpAll.mono e p)
  | _, _, .frz h p => .frz (SqL.step e h) (DpAll.mono e p)
  | _, _, .dct h p => .dct (e _ _ h) (DpK.mono e p)
  | _, _, .obj h m p => .obj (e _ _ h) m (DpF.mono e p)
  | _, _, .raw v => .raw v
theorem DpAll.mono {M : Md} {G G' : Hp} (e : Same G G') : ∀ {v : List V} {d : List D}, DpAll M G v d → DpAll M G' v d
  | _, _, .nil => .nil
  | _, _, .cons h p => .cons (Dp.mono e h) (DpAll.mono e p)
theorem DpK.mono {M : Md} {G G' : Hp} (e : Same G G') : ∀ {v : List (Key × V)} {d : List (Key × D)}, DpK M G v d → DpK M G' v d
  | _, _, .nil => .nil
  | _, _, .cons h p => .cons (Dp.mono e h) (DpK.mono e p)
theorem DpF.mono {M : Md} {G G' : Hp} (e : Same G G') : ∀ {v : List (Str × V)} {d : List (Str × D)}, DpF M G v d → DpF M G' v d
  | _, _, .nil => .nil
  | _, _, .cons h p => .cons (Dp.mono e h) (DpF.mono e p)
end

theorem DpAll.length {M : Md} {G : Hp} : ∀ {vs : List V} {ds : List D}, DpAll M G vs ds → vs.length = ds.length
  | _, _, .nil => rfl
  | _, _, .cons _ t => congrArg (· + 1) (DpAll.length t)
theorem DpAll.get {M : Md} {G : Hp} : ∀ {vs : List V} {ds : List D} {i : Nat} {d : D}, DpAll M G vs ds → ds[i]? = some d → ∃ v, vs[i]? = some v ∧ Dp M G v d
  | _, _, _, _, .nil, e => by simp at e
  | _, _, 0, _, .cons r _, e => by
    simp at e; subst e; exact ⟨_, rfl, r⟩
  | _, _, i + 1, d, .cons _ t, e => by
    obtain ⟨v, h1, h2⟩ := DpAll.get (i := i) (d := d) t (by simpa using e)
    exact ⟨v, by simpa using h1, h2⟩
theorem DpAll.append {M : Md} {G : Hp} : ∀ {vs ws : List V} {ds es : List D}, DpAll M G vs ds → DpAll M G ws es → DpAll M G (vs ++ ws) (ds ++ es)
  | _, _, _, _, .nil, s => s
  | _, _, _, _, .cons r t, s => .cons r (DpAll.append t s)
theorem DpAll.take {M : Md} {G : Hp} : ∀ {vs : List V} {ds : List D} (n : Nat), DpAll M G vs ds → DpAll M G (vs.take n) (ds.take n)
  | _, _, 0, _ => .nil
  | _, _, _ + 1, .nil => .nil
  | _, _, n + 1, .cons r t => .cons r (DpAll.take n t)
theorem DpAll.drop {M : Md} {G : Hp} : ∀ {vs : List V} {ds : List D} (n : Nat), DpAll M G vs ds → DpAll M G (vs.drop n) (ds.drop n)
  | _, _, 0, r => r
  | _, _, _ + 1, .nil => .nil
  | _, _, n + 1, .cons _ t => DpAll.drop n t
theorem DpAll.set {M : Md} {G : Hp} {v : V} {d : D} (h : Dp M G v d) : ∀ {vs : List V} {ds : List D} (n : Nat), DpAll M G vs ds → DpAll M G (vs.set n v) (ds.set n d)
  | _, _, _, .nil => .nil
  | _, _, 0, .cons _ t => .cons h t
  | _, _, n + 1, .cons r t => .cons r (DpAll.set h n t)
theorem DpAll.eraseIdx {M : Md} {G : Hp} : ∀ {vs : List V} {ds : List D} (n : Nat), DpAll M G vs ds → DpAll M G (vs.eraseIdx n) (ds.eraseIdx n)
  | _, _, _, .nil => .nil
  | _, _, 0, .cons _ t => t
  | _, _, n + 1, .cons r t => .cons r (DpAll.eraseIdx n t)
theorem DpAll.dropLast {M : Md} {G : Hp} {vs : List V} {ds : List D} (h : DpAll M G vs ds) : DpAll M G vs.dropLast ds.dropLast := by
  rw [List.dropLast_eq_take, List.dropLast_eq_take, h.length]
  exact h.take _
theorem DpAll.reverse {M : Md} {G : Hp} : ∀ {vs : List V} {ds : List D}, DpAll M G vs ds → DpAll M G vs.reverse ds.reverse
  | _, _, .nil => .nil
  | _, _, .cons r t => by
    rw [List.reverse_cons, List.reverse_cons]
    exact (DpAll.reverse t).append (.cons r .nil)
theorem DpAll.one {M : Md} {G : Hp} {v : V} {d : D} (h : Dp M G v d) : DpAll M G [v] [d] := .cons h .nil
theorem DpAll.rep {M : Md} {G : Hp} {vs : List V} {ds : List D} (h : DpAll M G vs ds) : ∀ k : Nat, DpAll M G (List.replicate k vs).flatten (List.replicate k ds).flatten
  | 0 => .nil
  | k + 1 => by
    simp only [List.replicate_succ, List.flatten_cons]
    exact h.append (DpAll.rep h k)

/-! ### worlds -/
structure Exn where
  c : Str
  fs : List (Str × D)
/-- an exception e -/
def ExRep (M : Md) (G : Hp) (c : Value) (dx : Option Addr) (e : Exn) : Prop := ∃ C, c = .ref C ∧ M.mg e.c = some (.ref C) ∧ match dx with
  | none => e.fs = []
  | some d => ∃ fvs, DpF M G fvs e.fs ∧ G d = some (.xd fvs)
theorem ExRep.mono {M : Md} {G G' : Hp} {c : Value} {dx : Option Addr} {e : Exn} (h : ExRep M G c dx e) (s : Same G G') : ExRep M G' c dx e := by
  obtain ⟨C, h1, h2, h3⟩ := h
  refine ⟨C, h1, h2, ?_⟩
  cases dx with
  | none => exact h3
  | some d =>
    obtain ⟨fvs, a, b⟩ := h3
    exact ⟨fvs, a.mono s, s _ _ b⟩
/-- what a slot holds -/
inductive SV where
  | dat (d : D)
  | lst (xs : List D)
  | root
  | exn (e : Exn)
abbrev Ev := List (Option SV)
/-- the one thing that calls may change -/
inductive Rt where
  | no
  | lst (xs : List D)
/-- what no step but a lambda's making changes -/
def Fixed : HO → Prop
  | .tbl _ => True
  | .ext _ => True
  | _ => False
/-- where a frame stands: what was there at its entry, the root -/
structure Wd where
  H0 : Hp
  G0 : Hp
  P0 : Addr → Prop
  J : Hp → Prop
  tb : Bool
  r : Option Addr
  x : Option (Addr × Value × Option Addr)
  jst : ∀ H H', J H → (∀ b o, H b = some o → Fixed o → H' b = some o) → J H'
/-- who owns an address: the root (none), a slot -/
abbrev Own := Addr → Option (Option Nat)
def NTb (tb : Bool) (o : HO) : Prop := tb = true → ∀ ps, o ≠ .tbl ps
def RootRep (M : Md) (wd : Wd) (O : Own) (G H : Hp) : Rt → Prop
  | .no => wd.r = none
  | .lst xs => ∃ a vs, wd.r = some a ∧ O a = some none ∧ H a = some (.lst vs) ∧ DpAll M G vs xs
def SlotRep (M : Md) (wd : Wd) (O : Own) (G H : Hp) (σ : L2.St) (i : Nat) : SV → Prop
  | .dat d => ∃ v, σ[i]? = some (some v) ∧ Dp M G v d
  | .lst xs => ∃ a vs, σ[i]? = some (some (.ref a)) ∧ O a = some (some i) ∧ H a = some (.lst vs) ∧ DpAll M G vs xs
  | .root => ∃ a, wd.r = some a ∧ σ[i]? = some (some (.ref a))
  | .exn e => ∃ a c dx, wd.x = some (a, c, dx) ∧ σ[i]? = some (some (.ref a)) ∧ ExRep M G c dx e
structure RW (M : Md) (wd : Wd) (O : Own) (G : Hp) (σ : L2.St) (H : Hp) (ρ : Ev) (π : Rt) : Prop where
  g0 : Same wd.G0 G
  sub : Same G H
  new : ∀ b o, G b = some o → wd.G0 b = some o ∨ wd.H0 b = none
  nt : ∀ b ps, G b ≠ some (.tbl ps)
  keep : ∀ b o, ¬ wd.P0 b → NTb wd.tb o → wd.H0 b = some o → H b = some o
  there : ∀ b, wd.H0 b ≠ none → H b ≠ none
  jj : wd.J H
  own : ∀ b w, O b = some w → G b = none ∧ (∃ o, H b = some o ∧ ¬ Fixed o) ∧ match w with
    | none => wd.P0 b ∨ wd.H0 b = none
    | some _ => wd.H0 b = none
  root : RootRep M wd O G H π
  len : σ.length = ρ.length
  slot : ∀ i sv, ρ[i]? = some (some sv) → SlotRep M wd O G H σ i sv

structure Step (O : Own) (G H : Hp) (O' : Own) (G' H' : Hp) : Prop where
  sg : Same G G'
  fr : ∀ b o, H b = some o → O b ≠ some none → (∀ ps, o ≠ .tbl ps) → H' b = some o
  oo : ∀ b i, O b = some (some i) → O' b = some (some i)
  on : ∀ b o, O' b = some none → H b = some o → (∀ ps, o ≠ .tbl ps) → O b = some none
theorem Step.refl (O : Own) (G H : Hp) : Step O G H O G H := ⟨Same.refl G, fun _ _ h _ _ => h, fun _ _ h => h, fun _ _ h _ _ => h⟩
theorem Step.trans {O G H O1 G1 H1 O2 G2 H2} (a : Step O G H O1 G1 H1) (b : Step O1 G1 H1 O2 G2 H2) : Step O G H O2 G2 H2 where
  sg := a.sg.trans b.sg
  fr := fun c o h ho ht => b.fr c o (a.fr c o h ho ht) (fun z => ho (a.on c o z h ht)) ht
  oo := fun c i h => b.oo c i (a.oo c i h)
  on := fun c o h hc ht => by
    by_cases q : O c = some none
    · exact q
    · exact a.on c o (b.on c o h (a.fr c o hc q ht) ht) hc ht

/-! ### outcomes -/
inductive Out (α : Type) where
  | ok (a : α) (π : Rt)
  | exc (e : Exn) (π : Rt)
  | bad
def Out.bind {α β : Type} (o : Out α) (k : α → Rt → Out β) : Out β := match o with
  | .ok a π => k a π
  | .exc e π => .exc e π
  | .bad => .bad
def EM (α : Type) := Rt → Out α
def EM.pure {α : Type} (a : α) : EM α := fun π => .ok a π
def EM.bind {α β : Type} (x : EM α) (k : α → EM β) : EM β := fun π => (x π).bind k
def EM.bad {α : Type} : EM α := fun _ => .bad
instance : Monad EM where
  pure := EM.pure
  bind := EM.bind
theorem em_pure {α : Type} (a : α) (π : Rt) : (pure a : EM α) π = .ok a π := rfl
theorem em_bind {α β : Type} (x : EM α) (k : α → EM β) (π : Rt) : (x >>= k) π = (x π).bind k := rfl

abbrev WS := L2.St → XK

section
variable (X : Cx) (wd : Wd) (W : WS)
/-- behind an expression -/
def Post {α β : Type} (rep : Own → Hp → Hp → β → α → Prop) (O : Own) (G : Hp) (σ : L2.St) (H : Hp) (ρ : Ev) (C : β → Hp → Prop) : Out α → Prop
  | .ok a π' => ∀ b O' G' H', RW (md X) wd O' G' σ H' ρ π' → Step O G H O' G' H' → rep O' G' H' b a → C b H'
  | .exc e π' => ∀ c dx O' G' H', RW (md X) wd O' G' σ H' ρ π' → Step O G H O' G' H' → ExRep (md X) G' c dx e → W σ c dx H'
  | .bad => False
def tG {α β : Type} (rep : Own → Hp → Hp → β → α → Prop) (w : Ev → EM α) : L2.St → Hp → (β → Hp → Prop) → Prop := fun σ H Q => ∃ O G ρ π, RW (md X) wd O G σ H ρ π ∧ Post X wd W rep O G σ H ρ Q (w ρ π)
end
section
variable {X : Cx} {wd : Wd} {W : WS} {α β γ δ : Type} {rep1 : Own → Hp → Hp → β → α → Prop} {rep2 : Own → Hp → Hp → δ → γ → Prop} {O O1 : Own} {G G1 : Hp} {σ : L2.St} {H H1 : Hp} {ρ : Ev}
theorem Post.imp {C C' : β → Hp → Prop} {o : Out α} (h : Post X wd W rep1 O G σ H ρ C o) (k : ∀ b H', C b H' → C' b H') : Post X wd W rep1 O G σ H ρ C' o := by
  cases o with
  | ok a π => exact fun b O' G' H' R S q => k _ _ (h b O' G' H' R S q)
  | exc e π => exact h
  | bad => exact h
theorem Post.shift {C : β → Hp → Prop} {o : Out α} (h : Post X wd W rep1 O G σ H ρ C o) (S : Step O G H O1 G1 H1) : Post X wd W rep1 O1 G1 σ H1 ρ C o := by
  cases o with
  | ok a π => exact fun b O' G' H' R S' q => h b O' G' H' R (S.trans S') q
  | exc e π => exact fun c dx O' G' H' R S' q => h c dx O' G' H' R (S.trans S') q
  | bad => exact h
/-- from the whole to its first part -/
theorem Post.chain {C : δ → Hp → Prop} {o : Out α} {k : α → Rt → Out γ} (h : Post X wd W rep2 O G σ H ρ C (o.bind k)) :
    Post X wd W rep1 O G σ H ρ (fun b H' => ∃ O' G' π' a, RW (md X) wd O' G' σ H' ρ π' ∧ Step O G H O' G' H' ∧ rep1 O' G' H' b a ∧ Post X wd W rep2 O' G' σ H' ρ C (k a π')) o := by
  cases o with
  | ok a π => exact fun b O' G' H' R S q => ⟨O', G', π, a, R, S, q, h.shift S⟩
  | exc e π => exact h
  | bad => exact h
end
/-- a stable value; one that may be an own list; a new list; a truth value; rows of them -/
def rD (X : Cx) : Own → Hp → Hp → V → D → Prop := fun _ G _ v d => Dp (md X) G v d
def rB (X : Cx) : Own → Hp → Hp → V → D → Prop := fun O G H v d => Dp (md X) G v d ∨ ∃ a vs xs i, v = .ref a ∧ d = .lst xs ∧ O a = some (some i) ∧ H a = some (.lst vs) ∧ DpAll (md X) G vs xs
def rF (X : Cx) (wd : Wd) : Own → Hp → Hp → V → List D → Prop := fun O G H v xs => ∃ a vs, v = .ref a ∧ H a = some (.lst vs) ∧ G a = none ∧ O a = none ∧ wd.H0 a = none ∧ DpAll (md X) G vs xs
def rT : Own → Hp → Hp → Bool → Bool → Prop := fun _ _ _ b c => b = c
def rDs (X : Cx) : Own → Hp → Hp → List V → List D → Prop := fun _ G _ v d => DpAll (md X) G v d
inductive rBs (X : Cx) (O : Own) (G H : Hp) : List V → List D → Prop
  | nil : rBs X O G H [] []
  | cons {v : V} {vs : List V} {d : D} {ds : List D} : rB X O G H v d → rBs X O G H vs ds → rBs X O G H (v :: vs) (d :: ds)

structure DE (X : Cx) (wd : Wd) (W : WS) (e : Expr) (w : Ev → EM D) : Prop where
  pe : PE X e (tG X wd W (rD X) w)
structure DB (X : Cx) (wd : Wd) (W : WS) (e : Expr) (w : Ev → EM D) : Prop where
  pe : PE X e (tG X wd W (rB X) w)
structure DF (X : Cx) (wd : Wd) (W : WS) (e : Expr) (w : Ev → EM (List D)) : Prop where
  pe : PE X e (tG X wd W (rF X wd) w)
structure DT (X : Cx) (wd : Wd) (W : WS) (e : Expr) (w : Ev → EM Bool) : Prop where
  pt : PT X e (tG X wd W rT w)
structure DA (X : Cx) (wd : Wd) (W : WS) (es : List Expr) (w : Ev → EM (List D)) : Prop where
  pa : PA X es (tG X wd W (rDs X) w)
structure DBs (X : Cx) (wd : Wd) (W : WS) (es : List Expr) (w : Ev → EM (List D)) : Prop where
  pa : PA X es (tG X wd W (rBs X) w)
section
variable {X : Cx} {e : Expr} {es : List Expr} {t t' : TE}
theorem pe_imp (h : PE X e t) (k : ∀ σ H Q, t' σ H Q → t σ H Q) : PE X e t' := ⟨fun pins s σ H Q I q => h.run pins s σ H Q I (k _ _ _ q)⟩
theorem pt_imp {t t' : TT} (h : PT X e t) (k : ∀ σ H Q, t' σ H Q → t σ H Q) : PT X e t' := ⟨fun pins s σ H Q I q => h.run pins s σ H Q I (k _ _ _ q)⟩
theorem pa_imp {t t' : TA} (h : PA X es t) (k : ∀ σ H Q, t' σ H Q → t σ H Q) : PA X es t' := ⟨fun pos pins s σ H Q I q => h.run pos pins s σ H Q I (k _ _ _ q)⟩
end

/-! ### growth -/
section
variable {M : Md} {wd : Wd} {O : Own} {G : Hp} {σ : L2.St} {H : Hp} {ρ : Ev} {π : Rt}
theorem same_upd {H : Hp} {p : Addr} {o : HO} (h : H p = none) : Same H (upd H p o) := fun b x e => by
  rw [upd_ne (ne_of_none e h)]
  exact e
theorem RootRep.mono {G' H' : Hp} (h : RootRep M wd O G H π) (sg : Same G G') (sh : ∀ b o, H b = some o → O b = some none → H' b = some o) : RootRep M wd O G' H' π := by
  cases π with
  | no => exact h
  | lst xs =>
    obtain ⟨a, vs, h1, h2, h3, h4⟩ := h
    exact ⟨a, vs, h1, h2, sh _ _ h3 h2, h4.mono sg⟩
theorem SlotRep.mono {G' H' : Hp} {O' : Own} {i : Nat} {sv : SV} (h : SlotRep M wd O G H σ i sv) (sg : Same G G') (sh : ∀ b o, H b = some o → O b = some (some i) → H' b = some o ∧ O' b = some (some i)) : SlotRep M wd O' G' H' σ i sv := by
  cases sv with
  | dat d =>
    obtain ⟨v, h1, h2⟩ := h
    exact ⟨v, h1, h2.mono sg⟩
  | lst xs =>
    obtain ⟨a, vs, h1, h2, h3, h4⟩ := h
    obtain ⟨k1, k2⟩ := sh _ _ h3 h2
    exact ⟨a, vs, h1, k2, k1, h4.mono sg⟩
  | root => exact h
  | exn e =>
    obtain ⟨a, c, dx, h1, h2, h3⟩ := h
    exact ⟨a, c, dx, h1, h2, h3.mono sg⟩
/-- a new object, seen in the heap alone -/
theorem RW.alloc (R : RW M wd O G σ H ρ π) {p : Addr} {o : HO} (n : H p = none) : RW M wd O G σ (upd H p o) ρ π ∧ Step O G H O G (upd H p o) ∧ G p = none ∧ O p = none ∧ wd.H0 p = none := by
  have s := same_upd (o := o) n
  have gp : G p = none := Same.free R.sub n
  have op : O p = none := by
    cases e : O p with
    | none => rfl
    | some w =>
      obtain ⟨_, ⟨u, h, _⟩, _⟩ := R.own p w e
      rw [n] at h; cases h
  have hp : wd.H0 p = none := by
    cases e : wd.H0 p with
    | none => rfl
    | some w => exact absurd n (R.there p (by rw [e]; exact fun z => by cases z))
  refine ⟨⟨R.g0, R.sub.trans s, R.new, R.nt, fun b u h1 h2 h3 => s _ _ (R.keep b u h1 h2 h3), fun b h => ?_, wd.jst _ _ R.jj fun b u h _ => s _ _ h, fun b w h => ?_, R.root.mono (Same.refl _) fun b u h _ => s _ _ h, R.len, fun i sv h => (R.slot i sv h).mono (Same.refl _) fun b u h1 h2 => ⟨s _ _ h1, h2⟩⟩,
    ⟨Same.refl _, fun b u h _ _ => s _ _ h, fun _ _ h => h, fun _ _ h _ _ => h⟩, gp, op, hp⟩
  · have q := R.there b h
    cases e : H b with
    | none => exact absurd e q
    | some u => rw [s _ _ e]; exact fun z => by cases z
  · obtain ⟨a1, ⟨u, a2, a3⟩, a4⟩ := R.own b w h
    exact ⟨a1, ⟨u, s _ _ a2, a3⟩, a4⟩
/-- an object of nobody's becomes known -/
theorem RW.know (R : RW M wd O G σ H ρ π) {p : Addr} {o : HO} (hp : H p = some o) (gp : G p = none) (op : O p = none) (h0 : wd.H0 p = none) (nt : ∀ ps, o ≠ .tbl ps) : RW M wd O (upd G p o) σ H ρ π ∧ Step O G H O (upd G p o) H ∧ upd G p o p = some o := by
  have s := same_upd (o := o) gp
  refine ⟨⟨R.g0.trans s, fun b u h => ?_, fun b u h => ?_, fun b ps h => ?_, R.keep, R.there, R.jj, fun b w h => ?_, R.root.mono s fun _ _ h _ => h, R.len, fun i sv h => (R.slot i sv h).mono s fun b u h1 h2 => ⟨h1, h2⟩⟩,
    ⟨s, fun _ _ h _ _ => h, fun _ _ h => h, fun _ _ h _ _ => h⟩, upd_same⟩
  · by_cases e : b = p
    · subst e; rw [upd_same] at h; cases h; exact hp
    · rw [upd_ne e] at h; exact R.sub _ _ h
  · by_cases e : b = p
    · subst e; exact .inr h0
    · rw [upd_ne e] at h; exact R.new _ _ h
  · by_cases e : b = p
    · subst e; rw [upd_same] at h; cases h; exact nt _ rfl
    · rw [upd_ne e] at h; exact R.nt _ _ h
  · obtain ⟨a1, a2, a4⟩ := R.own b w h
    refine ⟨?_, a2, a4⟩
    rw [upd_ne (fun z => by subst z; rw [op] at h; cases h)]
    exact a1
theorem RW.allocG (R : RW M wd O G σ H ρ π) {p : Addr} {o : HO} (n : H p = none) (nt : ∀ ps, o ≠ .tbl ps) : RW M wd O (upd G p o) σ (upd H p o) ρ π ∧ Step O G H O (upd G p o) (upd H p o) ∧ upd G p o p = some o := by
  obtain ⟨R1, S1, g, oo, h0⟩ := R.alloc (o := o) n
  obtain ⟨R2, S2, e⟩ := R1.know upd_same g oo h0 nt
  exact ⟨R2, S1.trans S2, e⟩
theorem rB.step {X : Cx} {O' : Own} {G' H' : Hp} {v : V} {d : D} (h : rB X O G H v d) (S : Step O G H O' G' H') : rB X O' G' H' v d := by
  rcases h with h | ⟨a, vs, xs, i, h1, h2, h3, h4, h5⟩
  · exact .inl (h.mono S.sg)
  · exact .inr ⟨a, vs, xs, i, h1, h2, S.oo _ _ h3, S.fr _ _ h4 (by rw [h3]; exact fun z => by cases z) (fun ps z => by cases z), h5.mono S.sg⟩
theorem rBs.step {X : Cx} {O' : Own} {G' H' : Hp} : ∀ {v : List V} {d : List D}, rBs X O G H v d → Step O G H O' G' H' → rBs X O' G' H' v d
  | _, _, .nil, _ => .nil
  | _, _, .cons h t, S => .cons (h.step S) (rBs.step t S)
end
end DL

/-! Expressions over the data layer. -/
namespace DL
open PySem PySem.Spec PyProof.Rows L2

section
variable {X : Cx} {wd : Wd} {W : WS} {O : Own} {G : Hp} {σ : L2.St} {H : Hp} {ρ : Ev} {π : Rt}
/-! ### what a datum says of its value -/
theorem Dp.i_int {M : Md} {v : V} {i : Int} (h : Dp M G v (.int i)) : v = .int i := by cases h; rfl
theorem Dp.i_bl {M : Md} {v : V} {i : Bool} (h : Dp M G v (.bl i)) : v = .bl i := by cases h; rfl
theorem Dp.i_str {M : Md} {v : V} {i : Str} (h : Dp M G v (.str i)) : v = .str i := by cases h; rfl
theorem rB.i_int {v : V} {i : Int} (h : rB X O G H v (.int i)) : v = .int i := by
  rcases h with h | ⟨_, _, _, _, _, e, _⟩
  · exact h.i_int
  · cases e
theorem rB.i_bl {v : V} {i : Bool} (h : rB X O G H v (.bl i)) : v = .bl i := by
  rcases h with h | ⟨_, _, _, _, _, e, _⟩
  · cases h; rfl
  · cases e
theorem rB.i_str {v : V} {i : Str} (h : rB X O G H v (.str i)) : v = .str i := by
  rcases h with h | ⟨_, _, _, _, _, e, _⟩
  · cases h; rfl
  · cases e
theorem rB.i_non {v : V} (h : rB X O G H v .non) : v = .non := by
  rcases h with h | ⟨_, _, _, _, _, e, _⟩
  · cases h; rfl
  · cases e
theorem rB.i_raw {v w : V} (h : rB X O G H v (.raw w)) : v = w := by
  rcases h with h | ⟨_, _, _, _, _, e, _⟩
  · cases h; rfl
  · cases e
theorem rB.i_tup {v : V} {ds : List D} (R : RW (md X) wd O G σ H ρ π) (h : rB X O G H v (.tup ds)) : ∃ a vs, v = .ref a ∧ SqT X.K H a vs ∧ DpAll (md X) G vs ds ∧ Tq X.K G a vs := by
  rcases h with h | ⟨_, _, _, _, _, e, _⟩
  · cases h with
    | tup h1 h2 => exact ⟨_, _, rfl, (h1.mono R.sub).sqT, h2, h1⟩
  · cases e
theorem rB.i_frz {v : V} {ds : List D} (R : RW (md X) wd O G σ H ρ π) (h : rB X O G H v (.frz ds)) : ∃ a vs, v = .ref a ∧ SqL X.K H a vs ∧ DpAll (md X) G vs ds := by
  rcases h with h | ⟨_, _, _, _, _, h, _⟩
  · cases h with
    | frz a b => exact ⟨_, _, rfl, SqL.step R.sub a, b⟩
  · cases h
theorem rB.i_lst {v : V} {ds : List D} (R : RW (md X) wd O G σ H ρ π) (h : rB X O G H v (.lst ds)) : ∃ a vs, v = .ref a ∧ H a = some (.lst vs) ∧ DpAll (md X) G vs ds := by
  rcases h with h | ⟨a, vs, xs, i, h1, h2, h3, h4, h5⟩
  · cases h with
    | lst h1 h2 => exact ⟨_, _, rfl, R.sub _ _ h1, h2⟩
  · cases h2
    exact ⟨a, vs, h1, h4, h5⟩

/-! ### giving a value -/
theorem Post.give {d : D} {v : V} {C : V → Hp → Prop} (h : Post X wd W (rD X) O G σ H ρ C (.ok d π)) (R : RW (md X) wd O G σ H ρ π) (r : Dp (md X) G v d) : C v H := h v O G H R (Step.refl _ _ _) r
theorem Post.giveT {ds : List D} {vs : List V} {C : V → Hp → Prop} {p : Addr} (h : Post X wd W (rD X) O G σ H ρ C (.ok (.tup ds) π)) (R : RW (md X) wd O G σ H ρ π) (r : DpAll (md X) G vs ds) (n : H p = none) : C (.ref p) (upd H p (.tup vs)) := by
  obtain ⟨R', S, e⟩ := R.allocG (o := .tup vs) n (fun ps z => by cases z)
  exact h _ _ _ _ R' S (.tup (.inl e) (r.mono S.sg))
theorem Post.giveL {ds : List D} {vs : List V} {C : V → Hp → Prop} {p : Addr} (h : Post X wd W (rD X) O G σ H ρ C (.ok (.lst ds) π)) (R : RW (md X) wd O G σ H ρ π) (r : DpAll (md X) G vs ds) (n : H p = none) : C (.ref p) (upd H p (.lst vs)) := by
  obtain ⟨R', S, e⟩ := R.allocG (o := .lst vs) n (fun ps z => by cases z)
  exact h _ _ _ _ R' S (.lst e (r.mono S.sg))
theorem Post.giveF {ds : List D} {vs : List V} {C : V → Hp → Prop} {p : Addr} (h : Post X wd W (rF X wd) O G σ H ρ C (.ok ds π)) (R : RW (md X) wd O G σ H ρ π) (r : DpAll (md X) G vs ds) (n : H p = none) : C (.ref p) (upd H p (.lst vs)) := by
  obtain ⟨R', S, g, o, h0⟩ := R.alloc (o := .lst vs) n
  exact h _ _ _ _ R' S ⟨p, vs, rfl, upd_same, g, o, h0, r⟩

/-! ### weaker -/
theorem DE.db {e : Expr} {w : Ev → EM D} (h : DE X wd W e w) : DB X wd W e w := ⟨pe_imp h.pe fun σ H Q q => by
  obtain ⟨O, G, ρ, π, R, p⟩ := q
  refine ⟨O, G, ρ, π, R, ?_⟩
  cases e : w ρ π with
  | ok a π' => rw [e] at p; exact fun b O' G' H' R S q => p b O' G' H' R S (.inl q)
  | exc e' π' => rw [e] at p; exact p
  | bad => rw [e] at p; exact p⟩
def eFrz (w : Ev → EM (List D)) : Ev → EM D := fun ρ => do
  let xs ← w ρ
  pure (.lst xs)
theorem DF.de {e : Expr} {w : Ev → EM (List D)} (h : DF X wd W e w) : DE X wd W e (eFrz w) := ⟨pe_imp h.pe fun σ H Q q => by
  obtain ⟨O, G, ρ, π, R, p⟩ := q
  refine ⟨O, G, ρ, π, R, Post.imp (Post.chain (o := w ρ π) p) fun v H' z => ?_⟩
  obtain ⟨O', G', π', xs, R', S, ⟨a, vs, rfl, h1, h2, h3, h4, h5⟩, p'⟩ := z
  obtain ⟨R2, S2, e⟩ := R'.know h1 h2 h3 h4 (fun ps z => by cases z)
  exact p' _ _ _ _ R2 S2 (.lst e (h5.mono S2.sg))⟩
theorem DA.dbs {e : List Expr} {w : Ev → EM (List D)} (h : DA X wd W e w) : DBs X wd W e w := ⟨pa_imp h.pa fun σ H Q q => by
  obtain ⟨O, G, ρ, π, R, p⟩ := q
  refine ⟨O, G, ρ, π, R, ?_⟩
  have k : ∀ {O G H} {v : List V} {d : List D}, DpAll (md X) G v d → rBs X O G H v d := by
    intro O G H v d h
    induction d generalizing v with
    | nil => cases h; exact .nil
    | cons d ds ih => cases h with
      | cons a b => exact .cons (.inl a) (ih b)
  cases e : w ρ π with
  | ok a π' => rw [e] at p; exact fun b O' G' H' R S q => p b O' G' H' R S (k q)
  | exc e' π' => rw [e] at p; exact p
  | bad => rw [e] at p; exact p⟩

/-! ### names and constants -/
def eVar (i : Nat) : Ev → EM D := fun ρ π => match ρ[i]? with
  | some (some (.dat d)) => .ok d π
  | _ => .bad
def eVarB (i : Nat) : Ev → EM D := fun ρ π => match ρ[i]? with
  | some (some (.dat d)) => .ok d π
  | some (some (.lst xs)) => .ok (.lst xs) π
  | _ => .bad
theorem de_var (i : Nat) {x : Str} {pos : Pos} (hN : X.N[i]? = some x := by rfl) (hv : Vis X.env.scope x := by first | exact Or.inl rfl | exact Or.inr (Or.inl rfl) | exact Or.inr (Or.inr rfl)) (hd : (x == ("__debug__" : Str)) = false := by decide)
    (hcd : (x == ("__classdict__" : Str)) = false := by decide) : DE X wd W (.Name x pos) (eVar i) := ⟨pe_imp (pe_var hN hv hd hcd) fun σ H Q q => by
  obtain ⟨O, G, ρ, π, R, p⟩ := q
  unfold eVar at p
  split at p
  · next d e =>
    obtain ⟨v, h1, h2⟩ := R.slot i _ e
    exact ⟨v, h1, p.give R h2⟩
  · exact p.elim⟩
theorem db_var (i : Nat) {x : Str} {pos : Pos} (hN : X.N[i]? = some x := by rfl) (hv : Vis X.env.scope x := by first | exact Or.inl rfl | exact Or.inr (Or.inl rfl) | exact Or.inr (Or.inr rfl)) (hd : (x == ("__debug__" : Str)) = false := by decide)
    (hcd : (x == ("__classdict__" : Str)) = false := by decide) : DB X wd W (.Name x pos) (eVarB i) := ⟨pe_imp (pe_var hN hv hd hcd) fun σ H Q q => by
  obtain ⟨O, G, ρ, π, R, p⟩ := q
  unfold eVarB at p
  split at p
  · next d e =>
    obtain ⟨v, h1, h2⟩ := R.slot i _ e
    exact ⟨v, h1, p _ _ _ _ R (Step.refl _ _ _) (.inl h2)⟩
  · next xs e =>
    obtain ⟨a, vs, h1, h2, h3, h4⟩ := R.slot i _ e
    exact ⟨_, h1, p _ _ _ _ R (Step.refl _ _ _) (.inr ⟨a, vs, xs, i, rfl, rfl, h2, h3, h4⟩)⟩
  · exact p.elim⟩
def eC (d : D) : Ev → EM D := fun _ => pure d
theorem de_const {e : Expr} {v : V} {d : D} (h : PE X e (tC v)) (hd : ∀ G, Dp (md X) G v d) : DE X wd W e (eC d) := ⟨pe_imp h fun σ H Q q => by
  obtain ⟨O, G, ρ, π, R, p⟩ := q
  exact Post.give (d := d) p R (hd G)⟩
theorem de_int {i j pos} : DE X wd W (.Constant (.int i) j pos) (eC (.int i)) := de_const pe_int fun _ => .int i
theorem de_bl {i j pos} : DE X wd W (.Constant (.bool i) j pos) (eC (.bl i)) := de_const pe_bl fun _ => .bl i
theorem de_str {i j pos} : DE X wd W (.Constant (.str i) j pos) (eC (.str i)) := de_const pe_str fun _ => .str i
theorem de_non {j pos} : DE X wd W (.Constant .none j pos) (eC .non) := de_const pe_non fun _ => .non
/-- a module's name whose value is known -/
theorem de_glob {x : Str} {v : V} {u : Value} {d : D} {pos : Pos} (hg : Gl X x) (hm : X.mg x = some u) (r : RelV v u) (hd : ∀ G, Dp (md X) G v d) (hdb : (x == ("__debug__" : Str)) = false := by decide) : DE X wd W (.Name x pos) (eC d) := de_const (pe_glob hg hm r hdb) hd
/-- a built-in type as a value -/
theorem de_ty {x : Str} {n : String} {pos : Pos} (hg : Gl X x) (hm : X.mg x = none) (hv : bootBuiltins x = some (.type n)) (hn : x ≠ "__name__" := by decide) (hd : (x == ("__debug__" : Str)) = false := by decide) : DE X wd W (.Name x pos) (eC (.raw (.ty n))) :=
  de_const (v := .ty n) (pe_bltn hg hm hv rfl hn hd) fun _ => .raw _

/-! ### rows of expressions -/
def aNil : Ev → EM (List D) := fun _ => pure []
def aCons (a : Ev → EM D) (r : Ev → EM (List D)) : Ev → EM (List D) := fun ρ => do
  let x ← a ρ
  let xs ← r ρ
  pure (x :: xs)
theorem da_nil : DA X wd W [] aNil := ⟨pa_imp pa_nil fun σ H Q q => by
  obtain ⟨O, G, ρ, π, R, p⟩ := q
  exact p [] O G H R (Step.refl _ _ _) .nil⟩
theorem da_cons {e : Expr} {es : List Expr} {a : Ev → EM D} {r : Ev → EM (List D)} (ha : DE X wd W e a) (hr : DA X wd W es r) (hs : starEach (e :: es) X.env = (false, eval e X.env) :: starEach es X.env := by rfl) : DA X wd W (e :: es) (aCons a r) := ⟨pa_imp (pa_cons ha.pe hr.pa hs) fun σ H Q q => by
  obtain ⟨O, G, ρ, π, R, p⟩ := q
  refine ⟨O, G, ρ, π, R, Post.imp (Post.chain (o := a ρ π) p) fun v H1 z => ?_⟩
  obtain ⟨O1, G1, π1, d, R1, S1, r1, p1⟩ := z
  refine ⟨O1, G1, ρ, π1, R1, Post.imp (Post.chain (o := r ρ π1) p1) fun vs H2 z => ?_⟩
  obtain ⟨O2, G2, π2, ds, R2, S2, r2, p2⟩ := z
  exact p2 _ _ _ _ R2 (Step.refl _ _ _) (.cons (Dp.mono S2.sg r1) r2)⟩
theorem dbs_nil : DBs X wd W [] aNil := da_nil.dbs
theorem dbs_cons {e : Expr} {es : List Expr} {a : Ev → EM D} {r : Ev → EM (List D)} (ha : DB X wd W e a) (hr : DBs X wd W es r) (hs : starEach (e :: es) X.env = (false, eval e X.env) :: starEach es X.env := by rfl) : DBs X wd W (e :: es) (aCons a r) := ⟨pa_imp (pa_cons ha.pe hr.pa hs) fun σ H Q q => by
  obtain ⟨O, G, ρ, π, R, p⟩ := q
  refine ⟨O, G, ρ, π, R, Post.imp (Post.chain (o := a ρ π) p) fun v H1 z => ?_⟩
  obtain ⟨O1, G1, π1, d, R1, S1, r1, p1⟩ := z
  refine ⟨O1, G1, ρ, π1, R1, Post.imp (Post.chain (o := r ρ π1) p1) fun vs H2 z => ?_⟩
  obtain ⟨O2, G2, π2, ds, R2, S2, r2, p2⟩ := z
  exact p2 _ _ _ _ R2 (Step.refl _ _ _) (.cons (rB.step r1 S2) r2)⟩
/-- lists and tuples, written -/
def small (n : Nat) : Bool := decide (n ≤ 1000)
theorem small_le {n : Nat} (h : small n = true) : n ≤ sizeLine := Nat.le_trans (of_decide_eq_true h) (by decide)
def eTup (w : Ev → EM (List D)) : Ev → EM D := fun ρ => do
  let xs ← w ρ
  if small xs.length then pure (.tup xs) else EM.bad
def eLst (w : Ev → EM (List D)) : Ev → EM (List D) := fun ρ => do
  let xs ← w ρ
  if small xs.length then pure xs else EM.bad
theorem de_tup {es : List Expr} {w : Ev → EM (List D)} {k pos} (h : DA X wd W es w) : DE X wd W (.Tuple es k pos) (eTup w) := ⟨pe_imp (pe_tup h.pa) fun σ H Q q => by
  obtain ⟨O, G, ρ, π, R, p⟩ := q
  refine ⟨O, G, ρ, π, R, Post.imp (Post.chain (o := w ρ π) p) fun vs H1 z => ?_⟩
  obtain ⟨O1, G1, π1, ds, R1, S1, r1, p1⟩ := z
  have p2 : Post X wd W (rD X) O1 G1 σ H1 ρ Q ((if small ds.length then pure (.tup ds) else EM.bad : EM D) π1) := p1
  split at p2
  · next e => exact ⟨by rw [r1.length]; exact small_le e, fun a n => p2.giveT R1 r1 n⟩
  · exact p2.elim⟩
theorem df_lst {es : List Expr} {w : Ev → EM (List D)} {pos} (h : DA X wd W es w) : DF X wd W (.List es pos) (eLst w) := ⟨pe_imp (pe_lst h.pa) fun σ H Q q => by
  obtain ⟨O, G, ρ, π, R, p⟩ := q
  refine ⟨O, G, ρ, π, R, Post.imp (Post.chain (o := w ρ π) p) fun vs H1 z => ?_⟩
  obtain ⟨O1, G1, π1, ds, R1, S1, r1, p1⟩ := z
  have p2 : Post X wd W (rF X wd) O1 G1 σ H1 ρ Q ((if small ds.length then pure ds else EM.bad : EM (List D)) π1) := p1
  split at p2
  · next e => exact ⟨by rw [r1.length]; exact small_le e, fun a n => p2.giveF R1 r1 n⟩
  · exact p2.elim⟩

/-! ### two operands -/
def Sem2 (X : Cx) (wd : Wd) (W : WS) (r : R2) (f : D → D → EM D) : Prop := ∀ O G σ H ρ π Q x y d1 d2, RW (md X) wd O G σ H ρ π → rB X O G H x d1 → rB X O G H y d2 → Post X wd W (rD X) O G σ H ρ Q (f d1 d2 π) → r x y H Q
def eBin (f : D → D → EM D) (a b : Ev → EM D) : Ev → EM D := fun ρ => do
  let x ← a ρ
  let y ← b ρ
  f x y
variable {a b c : Expr} {wa wb wc : Ev → EM D} {f g : D → D → EM D} {r r' : R2} {pos : Pos}
theorem sem_bin (hs : Sem2 X wd W r f) {σ : L2.St} {H : Hp} {Q : VK} (q : tG X wd W (rD X) (eBin f wa wb) σ H Q) : tOp r (tG X wd W (rB X) wa) (tG X wd W (rB X) wb) σ H Q := by
  obtain ⟨O, G, ρ, π, R, p⟩ := q
  refine ⟨O, G, ρ, π, R, Post.imp (Post.chain (o := wa ρ π) p) fun v H1 z => ?_⟩
  obtain ⟨O1, G1, π1, d1, R1, S1, r1, p1⟩ := z
  refine ⟨O1, G1, ρ, π1, R1, Post.imp (Post.chain (o := wb ρ π1) p1) fun u H2 z => ?_⟩
  obtain ⟨O2, G2, π2, d2, R2, S2, r2, p2⟩ := z
  exact hs _ _ _ _ _ _ _ _ _ _ _ R2 (rB.step r1 S2) r2 p2
theorem de_bin {op : Operator} (ho : OpR X (binaryOp op) r) (hs : Sem2 X wd W r f) (ha : DB X wd W a wa) (hb : DB X wd W b wb) : DE X wd W (.BinOp a op b pos) (eBin f wa wb) := ⟨pe_imp (pe_op ho ha.pe hb.pe) fun _ _ _ q => sem_bin hs q⟩
theorem de_cmp {op : CmpOp} (ho : OpR X (compareOp op) r) (hs : Sem2 X wd W r f) (ha : DB X wd W a wa) (hb : DB X wd W b wb) (hm : behindInMarks op b = false) : DE X wd W (.Compare a [op] [b] pos) (eBin f wa wb) := ⟨pe_imp (pe_cmpR ho ha.pe hb.pe hm) fun _ _ _ q => sem_bin hs q⟩
def asB : D → EM Bool
  | .bl b => pure b
  | _ => EM.bad
def eT (w : Ev → EM D) : Ev → EM Bool := fun ρ => do
  let x ← w ρ
  asB x
theorem post_asB {Q : Bool → Hp → Prop} {o : Out D} (h : Post X wd W rT O G σ H ρ Q (o.bind fun d π => asB d π)) : Post X wd W (rD X) O G σ H ρ (fun v H' => ∃ k, v = .bl k ∧ Q k H') o := by
  refine Post.imp (Post.chain (rep1 := rD X) h) fun v H1 z => ?_
  obtain ⟨O1, G1, π1, d1, R1, S1, r1, p1⟩ := z
  cases d1 with
  | bl k => exact ⟨k, Dp.i_bl r1, p1 k _ _ _ R1 (Step.refl _ _ _) rfl⟩
  | _ => exact p1.elim
theorem dt_cmp {op : CmpOp} (ho : OpR X (compareOp op) r) (hs : Sem2 X wd W r f) (ha : DB X wd W a wa) (hb : DB X wd W b wb) (hm : behindInMarks op b = false) : DT X wd W (.Compare a [op] [b] pos) (eT (eBin f wa wb)) := ⟨pt_imp (pt_cmpR ho ha.pe hb.pe hm) fun σ H Q q => by
  obtain ⟨O, G, ρ, π, R, p⟩ := q
  exact sem_bin hs ⟨O, G, ρ, π, R, post_asB p⟩⟩
/-- a test of a value that is True or False -/
theorem dt_val {e : Expr} {w : Ev → EM D} (h : DE X wd W e w) (he : ∀ whole, isTrue e X.env whole = (do let v ← whole; standAt e.pos; holding [v] (truthy v)) := by intro _; rfl) : DT X wd W e (eT w) := ⟨pt_imp (pt_val h.pe he) fun σ H Q q => by
  obtain ⟨O, G, ρ, π, R, p⟩ := q
  exact ⟨O, G, ρ, π, R, post_asB p⟩⟩
/-- a < b < c -/
def eChain (f g : D → D → EM D) (a b c : Ev → EM D) : Ev → EM D := fun ρ => do
  let x ← a ρ
  let y ← b ρ
  let z ← f x y
  let k ← asB z
  if k then (do
    let w ← c ρ
    g y w) else pure (.bl false)
theorem sem_chain (hs : Sem2 X wd W r f) (hs' : Sem2 X wd W r' g) {σ : L2.St} {H : Hp} {Q : VK} (q : tG X wd W (rD X) (eChain f g wa wb wc) σ H Q) : tChain r r' (tG X wd W (rB X) wa) (tG X wd W (rB X) wb) (tG X wd W (rB X) wc) σ H Q := by
  obtain ⟨O, G, ρ, π, R, p⟩ := q
  refine ⟨O, G, ρ, π, R, Post.imp (Post.chain (o := wa ρ π) p) fun v H1 z => ?_⟩
  obtain ⟨O1, G1, π1, d1, R1, S1, r1, p1⟩ := z
  refine ⟨O1, G1, ρ, π1, R1, Post.imp (Post.chain (o := wb ρ π1) p1) fun u H2 z => ?_⟩
  obtain ⟨O2, G2, π2, d2, R2, S2, r2, p2⟩ := z
  refine hs _ _ _ _ _ _ _ _ _ _ _ R2 (rB.step r1 S2) r2 (Post.imp (Post.chain (o := f d1 d2 π2) p2) fun z H3 hz => ?_)
  obtain ⟨O3, G3, π3, d3, R3, S3, r3, p3⟩ := hz
  cases d3 with
  | bl k =>
    refine ⟨k, Dp.i_bl r3, ?_⟩
    have p4 : Post X wd W (rD X) O3 G3 σ H3 ρ Q ((if k then (do let w ← wc ρ; g d2 w) else pure (.bl false) : EM D) π3) := p3
    cases k with
    | true =>
      rw [if_pos rfl] at p4 ⊢
      refine ⟨O3, G3, ρ, π3, R3, Post.imp (Post.chain (o := wc ρ π3) p4) fun v' H4 hz => ?_⟩
      obtain ⟨O4, G4, π4, d4, R4, S4, r4, p5⟩ := hz
      exact hs' _ _ _ _ _ _ _ _ _ _ _ R4 (rB.step (rB.step r2 S3) S4) r4 p5
    | false =>
      rw [if_neg Bool.false_ne_true] at p4 ⊢
      exact Post.give (d := .bl false) p4 R3 (.bl false)
  | _ => exact p3.elim
theorem de_chain {op op' : CmpOp} (ho : OpR X (compareOp op) r) (ho' : OpR X (compareOp op') r') (hs : Sem2 X wd W r f) (hs' : Sem2 X wd W r' g) (ha : DB X wd W a wa) (hb : DB X wd W b wb) (hc : DB X wd W c wc)
    (hm : lastMarks [op, op'] [b, c] = false := by with_unfolding_all rfl) : DE X wd W (.Compare a [op, op'] [b, c] pos) (eChain f g wa wb wc) := ⟨pe_imp (pe_chain ho ho' ha.pe hb.pe hc.pe hm) fun _ _ _ q => sem_chain hs hs' q⟩
theorem dt_chain {op op' : CmpOp} (ho : OpR X (compareOp op) r) (ho' : OpR X (compareOp op') r') (hs : Sem2 X wd W r f) (hs' : Sem2 X wd W r' g) (ha : DB X wd W a wa) (hb : DB X wd W b wb) (hc : DB X wd W c wc)
    (hm : lastMarks [op, op'] [b, c] = false := by with_unfolding_all rfl) : DT X wd W (.Compare a [op, op'] [b, c] pos) (eT (eChain f g wa wb wc)) := ⟨pt_imp (pt_chain ho ho' ha.pe hb.pe hc.pe hm) fun σ H Q q => by
  obtain ⟨O, G, ρ, π, R, p⟩ := q
  exact sem_chain hs hs' ⟨O, G, ρ, π, R, post_asB p⟩⟩
end
end DL

/-! Operators over the data layer. -/
namespace DL
open PySem PySem.Spec PyProof.Rows L2
mutual
def D.py : D → Option PyData
  | .non => some .none
  | .bl b => some (.bool b)
  | .int i => some (.int i)
  | .str s => some (.str s)
  | .tup xs => (D.pys xs).map .tuple
  | .lst xs => (D.pys xs).map .list
  | .dct _ => none
  | .frz _ => none
  | .obj _ _ => none
  | .raw _ => none
def D.pys : List D → Option (List PyData)
  | [] => some []
  | x :: xs => match D.py x, D.pys xs with
    | some a, some as => some (a :: as)
    | _, _ => none
end
mutual
theorem Dp.py {M : Md} {G H : Hp} (e : Same G H) : ∀ {v : V} {d : D} {p : PyData}, Dp M G v d → d.py = some p → L2.Dp M.K H v p
  | _, _, p, .non, h => by rw [D.py] at h; cases h; exact .non
  | _, _, p, .bl b, h => by rw [D.py] at h; cases h; exact .bl b
  | _, _, p, .int i, h => by rw [D.py] at h; cases h; exact .int i
  | _, _, p, .str x, h => by rw [D.py] at h; cases h; exact .str x
  | _, _, p, .tup a b, h => by
    rw [D.py] at h
    obtain ⟨q, h1, h2⟩ := Option.map_eq_some_iff.mp h
    subst h2
    exact .tup (a.mono e).sqT (DpAll.py e b h1)
  | _, _, p, .lst a b, h => by
    rw [D.py] at h
    obtain ⟨q, h1, h2⟩ := Option.map_eq_some_iff.mp h
    subst h2
    exact .lst (SqL.of (e _ _ a)) (DpAll.py e b h1)
  | _, _, p, .dct _ _, h => by rw [D.py] at h; cases h
  | _, _, p, .obj _ _ _, h => by rw [D.py] at h; cases h
  | _, _, p, .raw _, h => by rw [D.py] at h; cases h
  | _, _, p, .frz _ _, h => by rw [D.py] at h; cases h
theorem DpAll.py {M : Md} {G H : Hp} (e : Same G H) : ∀ {v : List V} {d : List D} {p : List PyData}, DpAll M G v d → D.pys d = some p → L2.DpAll M.K H v p
  | _, _, p, .nil, h => by rw [D.pys] at h; cases h; exact .nil
  | _, _, p, .cons a b, h => by
    rw [D.pys] at h
    split at h
    · next q1 q2 =>
      cases h
      exact .cons (Dp.py e a q1) (DpAll.py e b q2)
    · cases h
end
section
variable {X : Cx} {wd : Wd} {W : WS} {O : Own} {G : Hp} {σ : L2.St} {H : Hp} {ρ : Ev} {π : Rt}
theorem rB.py {v : V} {d : D} {p : PyData} (R : RW (md X) wd O G σ H ρ π) (h : rB X O G H v d) (e : d.py = some p) : L2.Dp X.K H v p := by
  rcases h with h | ⟨a, vs, xs, i, h1, h2, h3, h4, h5⟩
  · exact h.py (M := md X) R.sub e
  · subst h2
    rw [D.py] at e
    obtain ⟨q, e1, e2⟩ := Option.map_eq_some_iff.mp e
    subst e2
    subst h1
    exact .lst (SqL.of h4) (DpAll.py (M := md X) R.sub h5 e1)
theorem EM.bad_ {α : Type} {π : Rt} : (EM.bad : EM α) π = .bad := rfl
theorem post_bad {α β : Type} {rep : Own → Hp → Hp → β → α → Prop} {Q : β → Hp → Prop} (h : Post X wd W rep O G σ H ρ Q ((EM.bad : EM α) π)) : False := h

def ofO {α : Type} (o : Option α) : EM α := fun π => match o with
  | some d => .ok d π
  | none => .bad
theorem post_ofO {α β : Type} {rep : Own → Hp → Hp → β → α → Prop} {Q : β → Hp → Prop} {o : Option α} (h : Post X wd W rep O G σ H ρ Q (ofO o π)) : ∃ d, o = some d ∧ Post X wd W rep O G σ H ρ Q (.ok d π) := by
  cases o with
  | some d => exact ⟨d, rfl, h⟩
  | none => exact h.elim
/-! ### + - * // % ** -/
def addM : D → D → EM D
  | .int i, .int j => pure (.int (i + j))
  | .str x, .str y => if x.length + y.length ≤ sizeLine then pure (.str (x ++ y)) else EM.bad
  | .tup xs, .tup ys => if xs.length + ys.length ≤ sizeLine then pure (.tup (xs ++ ys)) else EM.bad
  | .lst xs, .lst ys => if xs.length + ys.length ≤ sizeLine then pure (.lst (xs ++ ys)) else EM.bad
  | _, _ => EM.bad
def rAddD (X : Cx) : R2 := fun x y H Q => (rI0 (fun i j => .int (i + j)) x y H Q ∨ (∃ i j, x = .str i ∧ y = .str j ∧ i.length + j.length ≤ sizeLine ∧ Q (.str (i ++ j)) H)) ∨ (rCatA X.K x y H Q ∨ rCat x y H Q)
theorem op_addD : OpR X (binaryOp .Add) (rAddD X) := (op_add.or op_add_str).or (op_catA.or op_cat)
theorem sem_add : Sem2 X wd W (rAddD X) addM := by
  intro O G σ H ρ π Q x y d1 d2 R h1 h2 p
  unfold addM at p
  split at p
  · next i j =>
    obtain rfl := h1.i_int
    obtain rfl := h2.i_int
    exact .inl (.inl ⟨i, j, rfl, rfl, Post.give (d := .int (i + j)) p R (.int _)⟩)
  · next i j =>
    obtain rfl := h1.i_str
    obtain rfl := h2.i_str
    split at p
    · next e => exact .inl (.inr ⟨i, j, rfl, rfl, e, Post.give (d := .str (i ++ j)) p R (.str _)⟩)
    · exact (post_bad p).elim
  · next xs ys =>
    obtain ⟨a, vs, rfl, q1, q2, q3⟩ := h1.i_tup R
    obtain ⟨b, ws, rfl, q4, q5, q6⟩ := h2.i_tup R
    split at p
    · next e =>
      rw [← q2.length, ← q5.length] at e
      refine .inr (.inl ⟨a, b, vs, ws, rfl, rfl, q1, q4, e, fun z => ?_, fun z1 z2 => ?_, fun _ _ c n => Post.giveT p R (q2.append q5) n⟩)
      · subst z
        cases q2
        exact Post.give (d := .tup ([] ++ ys)) p R (.tup q6 q5)
      · subst z2
        cases q5
        rw [List.append_nil] at p
        exact Post.give (d := .tup xs) p R (.tup q3 q2)
    · exact (post_bad p).elim
  · next xs ys =>
    obtain ⟨a, vs, rfl, q1, q2⟩ := h1.i_lst R
    obtain ⟨b, ws, rfl, q4, q5⟩ := h2.i_lst R
    split at p
    · next e =>
      rw [← q2.length, ← q5.length] at e
      exact .inr (.inr ⟨a, b, vs, ws, rfl, rfl, q1, q4, e, fun c n => Post.giveL p R (q2.append q5) n⟩)
    · exact (post_bad p).elim
  · exact (post_bad p).elim
def subM : D → D → EM D
  | .int i, .int j => pure (.int (i - j))
  | _, _ => EM.bad
theorem sem_sub : Sem2 X wd W (rI0 fun i j => .int (i - j)) subM := by
  intro O G σ H ρ π Q x y d1 d2 R h1 h2 p
  unfold subM at p
  split at p
  · next i j =>
    obtain rfl := h1.i_int
    obtain rfl := h2.i_int
    exact ⟨i, j, rfl, rfl, Post.give (d := .int (i - j)) p R (.int _)⟩
  · exact (post_bad p).elim
/-- one factor below 2 ^ 64 -/
def fits (i : Int) : Bool := decide (-(2 ^ 64) < i) && decide (i < 2 ^ 64)
theorem fits_of {i : Int} (h : fits i = true) : -(2 ^ 64) < i ∧ i < 2 ^ 64 := by
  unfold fits at h
  rw [Bool.and_eq_true] at h
  exact ⟨of_decide_eq_true h.1, of_decide_eq_true h.2⟩
/-- a text many times -/
def repS (z : Str) (n : Int) : Str := ⟨(List.replicate n.toNat z.cps).foldl (· ++ ·) #[]⟩
def repOk (z : Str) (n : Int) : Bool := decide (-1000 ≤ n) && (decide (n ≤ 1000) && (decide (1 ≤ z.length) && decide (z.length ≤ 1000)))
def rRepS : R2 := fun x y H Q => ∃ z n, x = .str z ∧ y = .int n ∧ repOk z n = true ∧ Q (.str (repS z n)) H
theorem fold_len (x : Array Nat) : ∀ (k : Nat) (acc : Array Nat), ((List.replicate k x).foldl (· ++ ·) acc).size = acc.size + k * x.size
  | 0, acc => by simp
  | k + 1, acc => by
    rw [List.replicate_succ, List.foldl_cons, fold_len x k, Array.size_append, Nat.succ_mul]
    omega
theorem op_repS : OpR X (binaryOp .Mult) rRepS := by
  intro pins s σ H x y v u Q I rx ry h
  obtain ⟨z, n, rfl, rfl, hb, q⟩ := h
  unfold repOk at hb
  simp only [Bool.and_eq_true, decide_eq_true_eq] at hb
  obtain ⟨b1, b2, b3, b4⟩ := hb
  obtain ⟨t, rfl⟩ := rx
  obtain ⟨t', rfl⟩ := ry
  have hz : z.cps.size = z.length := rfl
  have hm : z.length * n.toNat ≤ 1000 * 1000 := Nat.mul_le_mul b4 (by omega)
  refine P.mul_str (by rw [decide_eq_false (by omega), decide_eq_false (by omega)]; rfl) (fun h1 h2 => ?_) (fun h1 h2 => ?_) ?_
  · have : (2 ^ 63 - 1) / n ≥ 1000 := by
      refine Int.le_ediv_of_mul_le (by omega) ?_
      omega
    omega
  · unfold Builtin.Str.tooLong
    rw [decide_eq_false]
    have := sizeLine_eq
    omega
  · by_cases c : n < 1
    · rw [if_pos c]
      have e : repS z n = Str.empty := by
        unfold repS
        rw [show n.toNat = 0 by omega]
        rfl
      rw [e] at q
      exact ⟨by decide, ⟨.str Str.empty, H, I.tok _, ⟨_, rfl⟩, q⟩⟩
    · rw [if_neg c]
      by_cases c2 : (n == 1 || z.length == 0) = true
      · rw [if_pos c2]
        have hn : n = 1 := by
          simp only [Bool.or_eq_true, beq_iff_eq] at c2
          omega
        have e : repS z n = z := by
          unfold repS
          rw [hn]
          show (⟨#[] ++ z.cps⟩ : Str) = z
          rw [Array.empty_append]
        rw [e] at q
        exact ⟨.str z, H, I.tok _, ⟨_, rfl⟩, q⟩
      · rw [if_neg c2]
        refine ⟨?_, ⟨.str (repS z n), H, I.tok _, ⟨_, rfl⟩, q⟩⟩
        show ((List.replicate n.toNat z.cps).foldl (· ++ ·) #[]).size ≤ sizeLine
        rw [fold_len, sizeLine_eq, hz, Nat.mul_comm]
        simp
        omega
def mulM : D → D → EM D
  | .str z, .int n => if repOk z n then pure (.str (repS z n)) else EM.bad
  | .int i, .int j => if fits i || fits j then pure (.int (i * j)) else EM.bad
  | .lst xs, .int k => if decide (-(2 ^ 63) ≤ k) && (decide (k < 2 ^ 63) && decide (xs.length * k.toNat ≤ sizeLine)) then pure (.lst (List.replicate k.toNat xs).flatten) else EM.bad
  | .tup xs, .int k => if !xs.isEmpty && (decide (2 ≤ k) && (decide (k ≤ 1000) && decide (xs.length ≤ 1000))) then pure (.tup (List.replicate k.toNat xs).flatten) else if decide (k = 1) then EM.bad else EM.bad
  | _, _ => EM.bad
def rMulD (X : Cx) : R2 := fun x y H Q => (rRepS x y H Q ∨ rI CMul (fun i j => .int (i * j)) x y H Q) ∨ (rRep x y H Q ∨ rRepT X.K x y H Q)
theorem op_mulD : OpR X (binaryOp .Mult) (rMulD X) := (op_repS.or op_mul).or (op_rep.or op_repT)
theorem sem_mul : Sem2 X wd W (rMulD X) mulM := by
  intro O G σ H ρ π Q x y d1 d2 R h1 h2 p
  unfold mulM at p
  split at p
  · next z n =>
    obtain rfl := h1.i_str
    obtain rfl := h2.i_int
    split at p
    · next e => exact .inl (.inl ⟨z, n, rfl, rfl, e, Post.give (d := .str (repS z n)) p R (.str _)⟩)
    · exact (post_bad p).elim
  · next i j =>
    obtain rfl := h1.i_int
    obtain rfl := h2.i_int
    split at p
    · next e =>
      refine .inl (.inr ⟨i, j, rfl, rfl, ?_, Post.give (d := .int (i * j)) p R (.int _)⟩)
      rw [Bool.or_eq_true] at e
      exact e.imp fits_of fits_of
    · exact (post_bad p).elim
  · next xs k =>
    obtain ⟨a, vs, rfl, q1, q2⟩ := h1.i_lst R
    obtain rfl := h2.i_int
    split at p
    · next e =>
      simp only [Bool.and_eq_true, decide_eq_true_eq] at e
      obtain ⟨e1, e2, e3⟩ := e
      rw [← q2.length] at e3
      exact .inr (.inl ⟨a, k, vs, rfl, rfl, q1, e1, e2, e3, fun c n => Post.giveL p R (q2.rep _) n⟩)
    · exact (post_bad p).elim
  · next xs k =>
    obtain ⟨a, vs, rfl, q1, q2, q3⟩ := h1.i_tup R
    obtain rfl := h2.i_int
    split at p
    · next e =>
      simp only [Bool.and_eq_true, decide_eq_true_eq] at e
      obtain ⟨e0, e1, e2, e3⟩ := e
      rw [← q2.length] at e3
      refine .inr (.inr ⟨a, k, vs, rfl, rfl, q1, fun z => ?_, e1, e2, e3, fun c n => Post.giveT p R (q2.rep _) n⟩)
      subst z
      cases q2
      cases e0
    · split at p <;> exact (post_bad p).elim
  · exact (post_bad p).elim
def divOk (j : Int) : Bool := decide (0 < j) && decide (j < 1073741824)
def divM : D → D → EM D
  | .int i, .int j => if divOk j then pure (.int (i / j)) else EM.bad
  | _, _ => EM.bad
theorem sem_div : Sem2 X wd W (rI CDiv fun i j => .int (i / j)) divM := by
  intro O G σ H ρ π Q x y d1 d2 R h1 h2 p
  unfold divM at p
  split at p
  · next i j =>
    obtain rfl := h1.i_int
    obtain rfl := h2.i_int
    split at p
    · next e =>
      simp only [divOk, Bool.and_eq_true, decide_eq_true_eq] at e
      exact ⟨i, j, rfl, rfl, e, Post.give (d := .int (i / j)) p R (.int _)⟩
    · exact (post_bad p).elim
  · exact (post_bad p).elim
def modM : D → D → EM D
  | .int i, .int j => if decide (0 < j) then pure (.int (i % j)) else EM.bad
  | _, _ => EM.bad
theorem sem_mod : Sem2 X wd W (rI (fun _ j => 0 < j) fun i j => .int (i % j)) modM := by
  intro O G σ H ρ π Q x y d1 d2 R h1 h2 p
  unfold modM at p
  split at p
  · next i j =>
    obtain rfl := h1.i_int
    obtain rfl := h2.i_int
    split at p
    · next e => exact ⟨i, j, rfl, rfl, of_decide_eq_true e, Post.give (d := .int (i % j)) p R (.int _)⟩
    · exact (post_bad p).elim
  · exact (post_bad p).elim
def powM : D → D → EM D
  | .int i, .int j => if decide (0 ≤ j) && (decide (j ≤ 1000000) && decide (i.natAbs < 2 ^ 64)) then pure (.int (i ^ j.toNat)) else EM.bad
  | _, _ => EM.bad
theorem sem_pow : Sem2 X wd W (rI CPow fun i j => .int (i ^ j.toNat)) powM := by
  intro O G σ H ρ π Q x y d1 d2 R h1 h2 p
  unfold powM at p
  split at p
  · next i j =>
    obtain rfl := h1.i_int
    obtain rfl := h2.i_int
    split at p
    · next e =>
      simp only [Bool.and_eq_true, decide_eq_true_eq] at e
      exact ⟨i, j, rfl, rfl, e, Post.give (d := .int (i ^ j.toNat)) p R (.int _)⟩
    · exact (post_bad p).elim
  · exact (post_bad p).elim
/-! ### comparisons -/
def cmpM (p : Int → Int → Bool) : D → D → EM D
  | .int i, .int j => pure (.bl (p i j))
  | _, _ => EM.bad
theorem sem_cmp {f : Int → Int → Bool} : Sem2 X wd W (rI0 fun i j => .bl (f i j)) (cmpM f) := by
  intro O G σ H ρ π Q x y d1 d2 R h1 h2 p
  unfold cmpM at p
  split at p
  · next i j =>
    obtain rfl := h1.i_int
    obtain rfl := h2.i_int
    exact ⟨i, j, rfl, rfl, Post.give (d := .bl (f i j)) p R (.bl _)⟩
  · exact (post_bad p).elim
abbrev ltM : D → D → EM D := cmpM fun i j => decide (i < j)
abbrev leM : D → D → EM D := cmpM fun i j => decide (i ≤ j)
abbrev gtM : D → D → EM D := cmpM fun i j => decide (j < i)
abbrev geM : D → D → EM D := cmpM fun i j => decide (j ≤ i)
def eqB (d e : D) : Option Bool := match d.py, e.py with
  | some p, some q => if SeqAt.shaped p && SeqAt.shaped q then some (PyData.eqv p q) else none
  | _, _ => none
def eqM (d e : D) : EM D := ofO ((eqB d e).map .bl)
def neM (d e : D) : EM D := ofO ((eqB d e).map fun b => .bl (!b))
theorem eqB_some {d e : D} {b : Bool} (h : eqB d e = some b) : ∃ p q, d.py = some p ∧ e.py = some q ∧ SeqAt.shaped p = true ∧ SeqAt.shaped q = true ∧ PyData.eqv p q = b := by
  unfold eqB at h
  split at h
  · next p q h1 h2 =>
    split at h
    · next c =>
      rw [Bool.and_eq_true] at c
      cases h
      exact ⟨p, q, h1, h2, c.1, c.2, rfl⟩
    · cases h
  · cases h
theorem sem_eq : Sem2 X wd W (rEqD X.K) eqM := by
  intro O G σ H ρ π Q x y d1 d2 R h1 h2 p
  obtain ⟨d, q, p⟩ := post_ofO p
  obtain ⟨b, e, rfl⟩ := Option.map_eq_some_iff.mp q
  obtain ⟨a, c, e1, e2, e3, e4, rfl⟩ := eqB_some e
  exact ⟨a, c, h1.py R e1, h2.py R e2, e3, e4, Post.give (d := .bl _) p R (.bl _)⟩
theorem sem_ne : Sem2 X wd W (rNeD X.K) neM := by
  intro O G σ H ρ π Q x y d1 d2 R h1 h2 p
  obtain ⟨d, q, p⟩ := post_ofO p
  obtain ⟨b, e, rfl⟩ := Option.map_eq_some_iff.mp q
  obtain ⟨a, c, e1, e2, e3, e4, rfl⟩ := eqB_some e
  exact ⟨a, c, h1.py R e1, h2.py R e2, e3, e4, Post.give (d := .bl _) p R (.bl _)⟩
def D.isNon : D → Bool
  | .non => true
  | .raw .non => true
  | _ => false
theorem rB.isNon {v : V} {d : D} (h : rB X O G H v d) : decide (v = .non) = d.isNon := by
  rcases h with h | ⟨a, vs, xs, i, h1, h2, h3, h4, h5⟩
  · cases h with
    | raw v => cases v <;> rfl
    | _ => rfl
  · subst h1 h2; rfl
def isM (neg : Bool) : D → D → EM D
  | d, .non => pure (.bl (if neg then !d.isNon else d.isNon))
  | .bl a, .bl b => pure (.bl (if neg then !decide (a = b) else decide (a = b)))
  | _, _ => EM.bad
def rIsD : R2 := fun x y H Q => (y = .non ∧ Q (.bl (decide (x = .non))) H) ∨ ∃ a b, x = .bl a ∧ y = .bl b ∧ Q (.bl (decide (a = b))) H
def rIsNotD : R2 := fun x y H Q => (y = .non ∧ Q (.bl (!decide (x = .non))) H) ∨ ∃ a b, x = .bl a ∧ y = .bl b ∧ Q (.bl (!decide (a = b))) H
theorem op_isD : OpR X (compareOp .Is) rIsD := op_isN.or op_is_bl
theorem op_isnotD : OpR X (compareOp .IsNot) rIsNotD := op_notN.or op_isnot_bl
theorem sem_is : Sem2 X wd W rIsD (isM false) := by
  intro O G σ H ρ π Q x y d1 d2 R h1 h2 p
  unfold isM at p
  split at p
  · next d =>
    obtain rfl := h2.i_non
    refine .inl ⟨rfl, ?_⟩
    rw [h1.isNon]
    exact Post.give (d := .bl _) p R (.bl _)
  · next a b =>
    obtain rfl := h1.i_bl
    obtain rfl := h2.i_bl
    exact .inr ⟨a, b, rfl, rfl, Post.give (d := .bl _) p R (.bl _)⟩
  · exact (post_bad p).elim
theorem sem_isnot : Sem2 X wd W rIsNotD (isM true) := by
  intro O G σ H ρ π Q x y d1 d2 R h1 h2 p
  unfold isM at p
  split at p
  · next d =>
    obtain rfl := h2.i_non
    refine .inl ⟨rfl, ?_⟩
    rw [h1.isNon]
    exact Post.give (d := .bl _) p R (.bl _)
  · next a b =>
    obtain rfl := h1.i_bl
    obtain rfl := h2.i_bl
    exact .inr ⟨a, b, rfl, rfl, Post.give (d := .bl _) p R (.bl _)⟩
  · exact (post_bad p).elim
/-! ### in -/
def rInDT (K : PySem.W.Frag) (neg : Bool) : R2 := fun x y H Q => ∃ d ds, L2.Dp K H x d ∧ (L2.Dp K H y (.list ds) ∨ L2.Dp K H y (.tuple ds)) ∧ SeqAt.shaped d = true ∧ SeqAt.shaped (.list ds) = true ∧ Q (.bl (if neg then !ds.any fun z => PyData.eqv z d else ds.any fun z => PyData.eqv z d)) H
theorem op_inDT (hu : X.A.units + 65 < cLine) : OpR X (compareOp .In) (rInDT X.K false) := by
  intro pins s σ H x y v u Q I rx ry h
  obtain ⟨d, ds, hd, he, sd, se, q⟩ := h
  obtain ⟨as, r1⟩ := L2.Dp.reads I d x v hd rx
  rcases he with he | he
  · obtain ⟨bs, r2⟩ := L2.Dp.reads I (.list ds) y u he ry
    exact SeqAt.in_list_reads r2 r1 (SeqAt.canLay_of_shaped se) (SeqAt.canLay_of_shaped sd) (room_in_shaped sd hu) ⟨.bl _, H, I, rfl, q⟩
  · obtain ⟨bs, r2⟩ := L2.Dp.reads I (.tuple ds) y u he ry
    exact SeqAt.in_tuple_reads r2 r1 (SeqAt.canLay_of_shaped se) (SeqAt.canLay_of_shaped sd) (room_in_shaped sd hu) ⟨.bl _, H, I, rfl, q⟩
theorem op_notInDT (hu : X.A.units + 65 < cLine) : OpR X (compareOp .NotIn) (rInDT X.K true) := by
  intro pins s σ H x y v u Q I rx ry h
  obtain ⟨d, ds, hd, he, sd, se, q⟩ := h
  obtain ⟨as, r1⟩ := L2.Dp.reads I d x v hd rx
  rcases he with he | he
  · obtain ⟨bs, r2⟩ := L2.Dp.reads I (.list ds) y u he ry
    exact SeqAt.notIn_list_reads r2 r1 (SeqAt.canLay_of_shaped se) (SeqAt.canLay_of_shaped sd) (room_in_shaped sd hu) ⟨.bl _, H, I, rfl, q⟩
  · obtain ⟨bs, r2⟩ := L2.Dp.reads I (.tuple ds) y u he ry
    exact SeqAt.notIn_tuple_reads r2 r1 (SeqAt.canLay_of_shaped se) (SeqAt.canLay_of_shaped sd) (room_in_shaped sd hu) ⟨.bl _, H, I, rfl, q⟩
def inB (d : D) (ys : List D) : Option Bool := match d.py, D.pys ys with
  | some p, some ps => if SeqAt.shaped p && SeqAt.shaped (.list ps) then some (ps.any fun z => PyData.eqv z p) else none
  | _, _ => none
def inM (neg : Bool) (d e : D) : EM D := match e with
  | .lst ys => ofO ((inB d ys).map fun b => .bl (if neg then !b else b))
  | .tup ys => ofO ((inB d ys).map fun b => .bl (if neg then !b else b))
  | _ => EM.bad
theorem inB_some {d : D} {ys : List D} {b : Bool} (h : inB d ys = some b) : ∃ p ps, d.py = some p ∧ D.pys ys = some ps ∧ SeqAt.shaped p = true ∧ SeqAt.shaped (.list ps) = true ∧ (ps.any fun z => PyData.eqv z p) = b := by
  unfold inB at h
  split at h
  · next p q h1 h2 =>
    split at h
    · next c =>
      rw [Bool.and_eq_true] at c
      cases h
      exact ⟨p, q, h1, h2, c.1, c.2, rfl⟩
    · cases h
  · cases h
theorem sem_in {neg : Bool} : Sem2 X wd W (rInDT X.K neg) (inM neg) := by
  intro O G σ H ρ π Q x y d1 d2 R h1 h2 p
  unfold inM at p
  split at p
  · next ys =>
    obtain ⟨d, q, p⟩ := post_ofO p
    obtain ⟨b, e, rfl⟩ := Option.map_eq_some_iff.mp q
    obtain ⟨a, as, e1, e2, e3, e4, rfl⟩ := inB_some e
    exact ⟨a, as, h1.py R e1, .inl (h2.py R (by rw [D.py, e2]; rfl)), e3, e4, Post.give (d := .bl _) p R (.bl _)⟩
  · next ys =>
    obtain ⟨d, q, p⟩ := post_ofO p
    obtain ⟨b, e, rfl⟩ := Option.map_eq_some_iff.mp q
    obtain ⟨a, as, e1, e2, e3, e4, rfl⟩ := inB_some e
    exact ⟨a, as, h1.py R e1, .inr (h2.py R (by rw [D.py, e2]; rfl)), e3, e4, Post.give (d := .bl _) p R (.bl _)⟩
  · exact (post_bad p).elim
/-! ### subscripts -/
def ixM : D → D → EM D
  | .lst xs, .int i => ofO (atI xs i)
  | .tup xs, .int i => ofO (atI xs i)
  | .str z, .int i => if z.length ≤ sizeLine then ofO ((atI z.cps.toList i).map fun c => .str ⟨#[c]⟩) else EM.bad
  | _, _ => EM.bad
theorem atI_rep {M : Md} {vs : List V} {ds : List D} {i : Int} {d : D} (h : DpAll M G vs ds) (e : atI ds i = some d) : ∃ v, atI vs i = some v ∧ Dp M G v d := by
  unfold atI at e ⊢
  rw [h.length]
  cases q : ixN ds.length i with
  | none => rw [q] at e; cases e
  | some j =>
    rw [q] at e
    exact h.get e
theorem sem_ix : Sem2 X wd W (rIx X.K) ixM := by
  intro O G σ H ρ π Q x y d1 d2 R h1 h2 p
  unfold ixM at p
  split at p
  · next xs i =>
    obtain ⟨a, vs, rfl, q1, q2⟩ := h1.i_lst R
    obtain rfl := h2.i_int
    obtain ⟨d, e, p⟩ := post_ofO p
    obtain ⟨v, e1, e2⟩ := atI_rep q2 e
    exact .inl ⟨a, vs, i, v, rfl, rfl, SqL.of q1, e1, Post.give p R e2⟩
  · next xs i =>
    obtain ⟨a, vs, rfl, q1, q2, q3⟩ := h1.i_tup R
    obtain rfl := h2.i_int
    obtain ⟨d, e, p⟩ := post_ofO p
    obtain ⟨v, e1, e2⟩ := atI_rep q2 e
    exact .inr (.inl ⟨a, vs, i, v, rfl, rfl, q1, e1, Post.give p R e2⟩)
  · next z i =>
    obtain rfl := h1.i_str
    obtain rfl := h2.i_int
    split at p
    · next hz =>
      obtain ⟨d, q, p⟩ := post_ofO p
      obtain ⟨c, e, rfl⟩ := Option.map_eq_some_iff.mp q
      exact .inr (.inr ⟨z, i, c, rfl, rfl, hz, e, Post.give (d := .str ⟨#[c]⟩) p R (.str _)⟩)
    · exact (post_bad p).elim
  · exact (post_bad p).elim
variable {a b c : Expr} {wa wb wc : Ev → EM D} {pos : Pos}
theorem de_ix (ha : DB X wd W a wa) (hb : DB X wd W b wb) (hs : PlainIx b := by exact fun _ _ => rfl) : DE X wd W (.Subscript a b pos) (eBin ixM wa wb) := ⟨pe_imp (pe_ix ix_seq ha.pe hb.pe hs) fun _ _ _ q => sem_bin sem_ix q⟩
theorem de_add (ha : DB X wd W a wa) (hb : DB X wd W b wb) : DE X wd W (.BinOp a .Add b pos) (eBin addM wa wb) := de_bin op_addD sem_add ha hb
theorem de_sub (ha : DB X wd W a wa) (hb : DB X wd W b wb) : DE X wd W (.BinOp a .Sub b pos) (eBin subM wa wb) := de_bin op_sub sem_sub ha hb
theorem de_mul (ha : DB X wd W a wa) (hb : DB X wd W b wb) : DE X wd W (.BinOp a .Mult b pos) (eBin mulM wa wb) := de_bin op_mulD sem_mul ha hb
theorem de_div (ha : DB X wd W a wa) (hb : DB X wd W b wb) : DE X wd W (.BinOp a .FloorDiv b pos) (eBin divM wa wb) := de_bin op_fdiv sem_div ha hb
theorem de_mod (ha : DB X wd W a wa) (hb : DB X wd W b wb) : DE X wd W (.BinOp a .Mod b pos) (eBin modM wa wb) := de_bin op_mod sem_mod ha hb
theorem de_pow (ha : DB X wd W a wa) (hb : DB X wd W b wb) : DE X wd W (.BinOp a .Pow b pos) (eBin powM wa wb) := de_bin op_pow sem_pow ha hb
/-- an operator of comparison, what it does -/
structure CmpR (X : Cx) (wd : Wd) (W : WS) (op : CmpOp) (f : D → D → EM D) : Prop where
  ex : ∃ r, OpR X (compareOp op) r ∧ Sem2 X wd W r f
theorem c_lt : CmpR X wd W .Lt ltM := ⟨_, op_lt, sem_cmp⟩
theorem c_le : CmpR X wd W .LtE leM := ⟨_, op_le, sem_cmp⟩
theorem c_gt : CmpR X wd W .Gt gtM := ⟨_, op_gt, sem_cmp⟩
theorem c_ge : CmpR X wd W .GtE geM := ⟨_, op_ge, sem_cmp⟩
theorem c_eq (hu : X.A.units + 65 < cLine) : CmpR X wd W .Eq eqM := ⟨_, op_eqD (by omega), sem_eq⟩
theorem c_ne (hu : X.A.units + 65 < cLine) : CmpR X wd W .NotEq neM := ⟨_, op_neD (by omega), sem_ne⟩
theorem c_is : CmpR X wd W .Is (isM false) := ⟨_, op_isD, sem_is⟩
theorem c_isnot : CmpR X wd W .IsNot (isM true) := ⟨_, op_isnotD, sem_isnot⟩
theorem c_in (hu : X.A.units + 65 < cLine) : CmpR X wd W .In (inM false) := ⟨_, op_inDT hu, sem_in⟩
theorem c_notin (hu : X.A.units + 65 < cLine) : CmpR X wd W .NotIn (inM true) := ⟨_, op_notInDT hu, sem_in⟩
variable {f g : D → D → EM D}
theorem de_c {op : CmpOp} (h : CmpR X wd W op f) (ha : DB X wd W a wa) (hb : DB X wd W b wb) (hm : behindInMarks op b = false := by first | exact nomark _ | rfl) : DE X wd W (.Compare a [op] [b] pos) (eBin f wa wb) :=
  let ⟨_, h1, h2⟩ := h.ex
  de_cmp h1 h2 ha hb hm
theorem dt_c {op : CmpOp} (h : CmpR X wd W op f) (ha : DB X wd W a wa) (hb : DB X wd W b wb) (hm : behindInMarks op b = false := by first | exact nomark _ | rfl) : DT X wd W (.Compare a [op] [b] pos) (eT (eBin f wa wb)) :=
  let ⟨_, h1, h2⟩ := h.ex
  dt_cmp h1 h2 ha hb hm
theorem de_cc {op op' : CmpOp} (h : CmpR X wd W op f) (h' : CmpR X wd W op' g) (ha : DB X wd W a wa) (hb : DB X wd W b wb) (hc : DB X wd W c wc) (hm : lastMarks [op, op'] [b, c] = false := by with_unfolding_all rfl) : DE X wd W (.Compare a [op, op'] [b, c] pos) (eChain f g wa wb wc) :=
  let ⟨_, h1, h2⟩ := h.ex
  let ⟨_, h3, h4⟩ := h'.ex
  de_chain h1 h3 h2 h4 ha hb hc hm
theorem dt_cc {op op' : CmpOp} (h : CmpR X wd W op f) (h' : CmpR X wd W op' g) (ha : DB X wd W a wa) (hb : DB X wd W b wb) (hc : DB X wd W c wc) (hm : lastMarks [op, op'] [b, c] = false := by with_unfolding_all rfl) : DT X wd W (.Compare a [op, op'] [b, c] pos) (eT (eChain f g wa wb wc)) :=
  let ⟨_, h1, h2⟩ := h.ex
  let ⟨_, h3, h4⟩ := h'.ex
  dt_chain h1 h3 h2 h4 ha hb hc hm
end
end DL

/-! Tests, slices, built-in functions over the data layer. -/
namespace DL
open PySem PySem.Spec PyProof.Rows L2
section
variable {X : Cx} {wd : Wd} {W : WS} {O : Own} {G : Hp} {σ : L2.St} {H : Hp} {ρ : Ev} {π : Rt}
variable {a b c e : Expr} {es rest : List Expr} {wa wb wc : Ev → EM D} {ta tb tc : Ev → EM Bool} {pos : Pos}
/-! ### and, or, not -/
def eAnd (wa wb : Ev → EM D) : Ev → EM D := fun ρ => do
  let x ← wa ρ
  let k ← asB x
  if k then wb ρ else pure (.bl false)
def eOr (wa wb : Ev → EM D) : Ev → EM D := fun ρ => do
  let x ← wa ρ
  let k ← asB x
  if k then pure (.bl true) else wb ρ
def eNot (wa : Ev → EM D) : Ev → EM D := fun ρ => do
  let x ← wa ρ
  let k ← asB x
  pure (.bl (!k))
theorem de_one {op} (h : DE X wd W a wa) : DE X wd W (.BoolOp op [a] pos) wa := ⟨pe_one h.pe⟩
/-- the first part of an and, an or -/
theorem post_fst {γ δ : Type} {rep : Own → Hp → Hp → δ → γ → Prop} {C : δ → Hp → Prop} {f : Bool → EM γ} {o : Out D} (p : Post X wd W rep O G σ H ρ C (o.bind fun x π => (asB x >>= f) π)) :
    Post X wd W (rD X) O G σ H ρ (fun v H' => ∃ k, v = .bl k ∧ ∃ O' G' π', RW (md X) wd O' G' σ H' ρ π' ∧ Post X wd W rep O' G' σ H' ρ C (f k π')) o := by
  refine Post.imp (Post.chain (rep1 := rD X) p) fun v H1 z => ?_
  obtain ⟨O1, G1, π1, d1, R1, S1, r1, p1⟩ := z
  cases d1 with
  | bl k => exact ⟨k, Dp.i_bl r1, O1, G1, π1, R1, p1⟩
  | _ => exact p1.elim
theorem de_and (ha : DE X wd W a wa) (hb : DE X wd W (.BoolOp .And (b :: rest) pos) wb) : DE X wd W (.BoolOp .And (a :: b :: rest) pos) (eAnd wa wb) := ⟨pe_imp (pe_and ha.pe hb.pe) fun σ H Q q => by
  obtain ⟨O, G, ρ, π, R, p⟩ := q
  refine ⟨O, G, ρ, π, R, Post.imp (post_fst p) fun v H1 z => ?_⟩
  obtain ⟨k, rfl, O1, G1, π1, R1, p1⟩ := z
  refine ⟨k, rfl, ?_⟩
  cases k with
  | true => exact ⟨O1, G1, ρ, π1, R1, p1⟩
  | false => exact Post.give (d := .bl false) p1 R1 (.bl _)⟩
theorem de_or (ha : DE X wd W a wa) (hb : DE X wd W (.BoolOp .Or (b :: rest) pos) wb) : DE X wd W (.BoolOp .Or (a :: b :: rest) pos) (eOr wa wb) := ⟨pe_imp (pe_or ha.pe hb.pe) fun σ H Q q => by
  obtain ⟨O, G, ρ, π, R, p⟩ := q
  refine ⟨O, G, ρ, π, R, Post.imp (post_fst p) fun v H1 z => ?_⟩
  obtain ⟨k, rfl, O1, G1, π1, R1, p1⟩ := z
  refine ⟨k, rfl, ?_⟩
  cases k with
  | false => exact ⟨O1, G1, ρ, π1, R1, p1⟩
  | true => exact Post.give (d := .bl true) p1 R1 (.bl _)⟩
theorem de_not (ha : DE X wd W a wa) : DE X wd W (.UnaryOp .Not a pos) (eNot wa) := ⟨pe_imp (pe_not ha.pe) fun σ H Q q => by
  obtain ⟨O, G, ρ, π, R, p⟩ := q
  refine ⟨O, G, ρ, π, R, Post.imp (post_fst p) fun v H1 z => ?_⟩
  obtain ⟨k, rfl, O1, G1, π1, R1, p1⟩ := z
  exact ⟨k, rfl, Post.give (d := .bl (!k)) p1 R1 (.bl _)⟩⟩
/-- tests -/
structure DW (X : Cx) (wd : Wd) (W : WS) (e : Expr) (w : Ev → EM Bool) : Prop where
  pw : PW X e (tG X wd W rT w)
theorem pw_imp {t t' : TT} (h : PW X e t) (k : ∀ σ H Q, t' σ H Q → t σ H Q) : PW X e t' := ⟨fun wh pins s σ H Q I q => h.run wh pins s σ H Q I (k _ _ _ q)⟩
def tAnd_ (wa wb : Ev → EM Bool) : Ev → EM Bool := fun ρ => do
  let k ← wa ρ
  if k then wb ρ else pure false
def tOr_ (wa wb : Ev → EM Bool) : Ev → EM Bool := fun ρ => do
  let k ← wa ρ
  if k then pure true else wb ρ
def tNot_ (wa : Ev → EM Bool) : Ev → EM Bool := fun ρ => do
  let k ← wa ρ
  pure (!k)
theorem dw_and1 (h : DT X wd W a ta) : DW X wd W (.BoolOp .And [a] pos) ta := ⟨pw_and1 h.pt⟩
theorem dw_or1 (h : DT X wd W a ta) : DW X wd W (.BoolOp .Or [a] pos) ta := ⟨pw_or1 h.pt⟩
theorem dw_and (ha : DT X wd W a ta) (hb : DW X wd W (.BoolOp .And (b :: rest) pos) tb) : DW X wd W (.BoolOp .And (a :: b :: rest) pos) (tAnd_ ta tb) := ⟨pw_imp (pw_and ha.pt hb.pw) fun σ H Q q => by
  obtain ⟨O, G, ρ, π, R, p⟩ := q
  refine ⟨O, G, ρ, π, R, Post.imp (Post.chain (rep1 := rT) p) fun v H1 z => ?_⟩
  obtain ⟨O1, G1, π1, k, R1, S1, rfl, p1⟩ := z
  cases v with
  | true => exact ⟨O1, G1, ρ, π1, R1, p1⟩
  | false => exact p1 false _ _ _ R1 (Step.refl _ _ _) rfl⟩
theorem dw_or (ha : DT X wd W a ta) (hb : DW X wd W (.BoolOp .Or (b :: rest) pos) tb) : DW X wd W (.BoolOp .Or (a :: b :: rest) pos) (tOr_ ta tb) := ⟨pw_imp (pw_or ha.pt hb.pw) fun σ H Q q => by
  obtain ⟨O, G, ρ, π, R, p⟩ := q
  refine ⟨O, G, ρ, π, R, Post.imp (Post.chain (rep1 := rT) p) fun v H1 z => ?_⟩
  obtain ⟨O1, G1, π1, k, R1, S1, rfl, p1⟩ := z
  cases v with
  | false => exact ⟨O1, G1, ρ, π1, R1, p1⟩
  | true => exact p1 true _ _ _ R1 (Step.refl _ _ _) rfl⟩
theorem DW.dt (h : DW X wd W e ta) : DT X wd W e ta := ⟨h.pw.pt⟩
theorem dt_not (ha : DT X wd W a ta) : DT X wd W (.UnaryOp .Not a pos) (tNot_ ta) := ⟨pt_imp (pt_not ha.pt) fun σ H Q q => by
  obtain ⟨O, G, ρ, π, R, p⟩ := q
  refine ⟨O, G, ρ, π, R, Post.imp (Post.chain (rep1 := rT) p) fun v H1 z => ?_⟩
  obtain ⟨O1, G1, π1, k, R1, S1, rfl, p1⟩ := z
  exact p1 (!v) _ _ _ R1 (Step.refl _ _ _) rfl⟩
def eIf (t : Ev → EM Bool) (wa wb : Ev → EM D) : Ev → EM D := fun ρ => do
  let k ← t ρ
  if k then wa ρ else wb ρ
theorem de_if (hc : DT X wd W c tc) (ha : DE X wd W a wa) (hb : DE X wd W b wb) : DE X wd W (.IfExp c a b pos) (eIf tc wa wb) := ⟨pe_imp (pe_ifExp hc.pt ha.pe hb.pe) fun σ H Q q => by
  obtain ⟨O, G, ρ, π, R, p⟩ := q
  refine ⟨O, G, ρ, π, R, Post.imp (Post.chain (rep1 := rT) p) fun v H1 z => ?_⟩
  obtain ⟨O1, G1, π1, k, R1, S1, rfl, p1⟩ := z
  cases v with
  | true => exact ⟨O1, G1, ρ, π1, R1, p1⟩
  | false => exact ⟨O1, G1, ρ, π1, R1, p1⟩⟩
/-! ### -n -/
def negM : D → EM D
  | .int i => pure (.int (-i))
  | _ => EM.bad
def eUn (f : D → EM D) (a : Ev → EM D) : Ev → EM D := fun ρ => do
  let x ← a ρ
  f x
theorem de_neg (ha : DE X wd W a wa) : DE X wd W (.UnaryOp .USub a pos) (eUn negM wa) := ⟨pe_imp (pe_un un_neg ha.pe) fun σ H Q q => by
  obtain ⟨O, G, ρ, π, R, p⟩ := q
  refine ⟨O, G, ρ, π, R, Post.imp (Post.chain (rep1 := rD X) p) fun v H1 z => ?_⟩
  obtain ⟨O1, G1, π1, d, R1, S1, r1, p1⟩ := z
  cases d with
  | int i => exact ⟨i, Dp.i_int r1, Post.give (d := .int (-i)) p1 R1 (.int _)⟩
  | _ => exact p1.elim⟩
/-! ### slices -/
def rO : Own → Hp → Hp → Option Int → Option Int → Prop := fun _ _ _ b a => b = a
structure DO (X : Cx) (wd : Wd) (W : WS) (e : Option Expr) (w : Ev → EM (Option Int)) : Prop where
  po : PO X e (tG X wd W rO w)
theorem po_imp {e : Option Expr} {t t' : TO} (h : PO X e t) (k : ∀ σ H Q, t' σ H Q → t σ H Q) : PO X e t' := ⟨fun pins s σ H Q I q => h.run pins s σ H Q I (k _ _ _ q)⟩
def asI : D → EM (Option Int)
  | .int i => pure (some i)
  | _ => EM.bad
def oNone : Ev → EM (Option Int) := fun _ => pure none
def oSome (w : Ev → EM D) : Ev → EM (Option Int) := fun ρ => do
  let x ← w ρ
  asI x
theorem do_none : DO X wd W none oNone := ⟨po_imp po_none fun σ H Q q => by
  obtain ⟨O, G, ρ, π, R, p⟩ := q
  exact p none _ _ _ R (Step.refl _ _ _) rfl⟩
theorem do_some (h : DB X wd W a wa) : DO X wd W (some a) (oSome wa) := ⟨po_imp (po_some h.pe) fun σ H Q q => by
  obtain ⟨O, G, ρ, π, R, p⟩ := q
  refine ⟨O, G, ρ, π, R, Post.imp (Post.chain (rep1 := rB X) p) fun v H1 z => ?_⟩
  obtain ⟨O1, G1, π1, d, R1, S1, r1, p1⟩ := z
  cases d with
  | int i => exact ⟨i, rB.i_int r1, p1 (some i) _ _ _ R1 (Step.refl _ _ _) rfl⟩
  | _ => exact p1.elim⟩
def cut {α : Type} (xs : List α) (lo hi : Option Int) : List α := (xs.drop (HT.sIx xs.length 0 lo)).take (HT.sIx xs.length xs.length hi - HT.sIx xs.length 0 lo)
theorem DpAll.cut {M : Md} {vs : List V} {ds : List D} (h : DpAll M G vs ds) (lo hi : Option Int) : DpAll M G (cutV vs lo hi) (cut ds lo hi) := by
  unfold cutV DL.cut
  rw [h.length]
  exact (h.drop _).take _
def slM (d : D) (lo hi : Option Int) : EM D := match d with
  | .lst xs => pure (.lst (cut xs lo hi))
  | .tup xs => pure (.tup (cut xs lo hi))
  | .str z => if z.length ≤ sizeLine then pure (.str (cutS z lo hi)) else EM.bad
  | .frz xs => pure (.lst (cut xs lo hi))
  | _ => EM.bad
def eSl (w : Ev → EM D) (lo hi : Ev → EM (Option Int)) : Ev → EM D := fun ρ => do
  let x ← w ρ
  let l ← lo ρ
  let h ← hi ρ
  slM x l h
def rSlD (X : Cx) : V → Option Int → Option Int → Hp → VK → Prop := fun x lo hi H Q => rSlL X.K x lo hi H Q ∨ (rSlA X.K x lo hi H Q ∨ rSlS x lo hi H Q)
theorem cut_whole {α : Type} {xs : List α} {lo hi : Option Int} (h1 : HT.sIx xs.length 0 lo = 0) (h2 : HT.sIx xs.length xs.length hi = xs.length) : cut xs lo hi = xs := by
  unfold cut
  rw [h1, h2, List.drop_zero, Nat.sub_zero]
  exact List.take_length
theorem de_sl {lo hi : Option Expr} {wl wh : Ev → EM (Option Int)} {p2 : Pos} (he : DB X wd W e wa) (hl : DO X wd W lo wl) (hh : DO X wd W hi wh) : DE X wd W (.Subscript e (.Slice lo hi none p2) pos) (eSl wa wl wh) :=
  ⟨pe_imp (pe_slice (r := rSlD X) (sl_list.or (sl_tupA.or sl_str)) he.pe hl.po hh.po) fun σ H Q q => by
  obtain ⟨O, G, ρ, π, R, p⟩ := q
  refine ⟨O, G, ρ, π, R, Post.imp (Post.chain (rep1 := rB X) p) fun v H1 z => ?_⟩
  obtain ⟨O1, G1, π1, d, R1, S1, r1, p1⟩ := z
  refine ⟨O1, G1, ρ, π1, R1, Post.imp (Post.chain (rep1 := rO) p1) fun l H2 z => ?_⟩
  obtain ⟨O2, G2, π2, l', R2, S2, rfl, p2⟩ := z
  refine ⟨O2, G2, ρ, π2, R2, Post.imp (Post.chain (rep1 := rO) p2) fun h H3 z => ?_⟩
  obtain ⟨O3, G3, π3, h', R3, S3, rfl, p3⟩ := z
  have r3 := (r1.step S2).step S3
  have p4 : Post X wd W (rD X) O3 G3 σ H3 ρ Q (slM d l h π3) := p3
  unfold slM at p4
  split at p4
  · next xs =>
    obtain ⟨a, vs, rfl, q1, q2⟩ := r3.i_lst R3
    exact .inl ⟨a, vs, rfl, SqL.of q1, fun c n => Post.giveL p4 R3 (q2.cut l h) n⟩
  · next xs =>
    obtain ⟨a, vs, rfl, q1, q2, q3⟩ := r3.i_tup R3
    refine .inr (.inl ⟨a, vs, rfl, q1, fun ⟨z1, z2⟩ => ?_, fun _ c n => Post.giveT p4 R3 (q2.cut l h) n⟩)
    rw [q2.length] at z1 z2
    rw [cut_whole z1 z2] at p4
    exact Post.give (d := .tup xs) p4 R3 (.tup q3 q2)
  · next z =>
    obtain rfl := r3.i_str
    split at p4
    · next hz => exact .inr (.inr ⟨z, rfl, hz, Post.give (d := .str _) p4 R3 (.str _)⟩)
    · exact (post_bad p4).elim
  · next xs =>
    obtain ⟨a, vs, rfl, q1, q2⟩ := r3.i_frz R3
    exact .inl ⟨a, vs, rfl, q1, fun c n => Post.giveL p4 R3 (q2.cut l h) n⟩
  · exact (post_bad p4).elim⟩
/-! ### calls of built-ins -/
abbrev RC := List V → Hp → VK → Prop
def SemC (X : Cx) (wd : Wd) (W : WS) (r : RC) (f : List D → EM D) : Prop := ∀ O G σ H ρ π Q vs ds, RW (md X) wd O G σ H ρ π → rBs X O G H vs ds → Post X wd W (rD X) O G σ H ρ Q (f ds π) → r vs H Q
def SemF (X : Cx) (wd : Wd) (W : WS) (r : RC) (f : List D → EM (List D)) : Prop := ∀ O G σ H ρ π Q vs ds, RW (md X) wd O G σ H ρ π → rBs X O G H vs ds → Post X wd W (rF X wd) O G σ H ρ Q (f ds π) → r vs H Q
structure BltR (X : Cx) (wd : Wd) (W : WS) (x : Str) (f : List D → EM D) : Prop where
  mg : X.mg x = none
  nn : x ≠ "__name__"
  nd : (x == ("__debug__" : Str)) = false
  ex : (∃ id r, bootBuiltins x = some (.builtin id) ∧ CallR X (.builtin id) r ∧ SemC X wd W r f) ∨ ∃ T r, bootBuiltins x = some (.type T) ∧ CallR X (.type T) r ∧ SemC X wd W r f
structure BltF (X : Cx) (wd : Wd) (W : WS) (x : Str) (f : List D → EM (List D)) : Prop where
  mg : X.mg x = none
  nn : x ≠ "__name__"
  nd : (x == ("__debug__" : Str)) = false
  ex : (∃ id r, bootBuiltins x = some (.builtin id) ∧ CallR X (.builtin id) r ∧ SemF X wd W r f) ∨ ∃ T r, bootBuiltins x = some (.type T) ∧ CallR X (.type T) r ∧ SemF X wd W r f
def eCall {α : Type} (f : List D → EM α) (w : Ev → EM (List D)) : Ev → EM α := fun ρ => do
  let xs ← w ρ
  f xs
theorem de_blt {x : Str} {f : List D → EM D} {ws : Ev → EM (List D)} {p : Pos} (h : BltR X wd W x f) (hg : Gl X x) (ha : DBs X wd W (e :: es) ws) (he : starEach (e :: es) X.env = (false, eval e X.env) :: starEach es X.env := by rfl) (hpl : (backTo pos (starEach es X.env)).any (·.1) = false := by rfl) :
    DE X wd W (.Call (.Name x p) (e :: es) [] pos) (eCall f ws) := by
  obtain ⟨mg, nn, nd, ⟨id, r, hb, hc, hs⟩ | ⟨id, r, hb, hc, hs⟩⟩ := h
  · exact ⟨pe_imp (pe_callB hc hg mg hb ha.pa nn nd he hpl) fun σ H Q q => by
      obtain ⟨O, G, ρ, π, R, p⟩ := q
      refine ⟨O, G, ρ, π, R, Post.imp (Post.chain (rep1 := rBs X) p) fun v H1 z => ?_⟩
      obtain ⟨O1, G1, π1, d, R1, S1, r1, p1⟩ := z
      exact hs _ _ _ _ _ _ _ _ _ R1 r1 p1⟩
  · exact ⟨pe_imp (pe_callTy hc hg mg hb ha.pa nn nd he hpl) fun σ H Q q => by
      obtain ⟨O, G, ρ, π, R, p⟩ := q
      refine ⟨O, G, ρ, π, R, Post.imp (Post.chain (rep1 := rBs X) p) fun v H1 z => ?_⟩
      obtain ⟨O1, G1, π1, d, R1, S1, r1, p1⟩ := z
      exact hs _ _ _ _ _ _ _ _ _ R1 r1 p1⟩
theorem df_blt {x : Str} {f : List D → EM (List D)} {ws : Ev → EM (List D)} {p : Pos} (h : BltF X wd W x f) (hg : Gl X x) (ha : DBs X wd W (e :: es) ws) (he : starEach (e :: es) X.env = (false, eval e X.env) :: starEach es X.env := by rfl) (hpl : (backTo pos (starEach es X.env)).any (·.1) = false := by rfl) :
    DF X wd W (.Call (.Name x p) (e :: es) [] pos) (eCall f ws) := by
  obtain ⟨mg, nn, nd, ⟨id, r, hb, hc, hs⟩ | ⟨id, r, hb, hc, hs⟩⟩ := h
  · exact ⟨pe_imp (pe_callB hc hg mg hb ha.pa nn nd he hpl) fun σ H Q q => by
      obtain ⟨O, G, ρ, π, R, p⟩ := q
      refine ⟨O, G, ρ, π, R, Post.imp (Post.chain (rep1 := rBs X) p) fun v H1 z => ?_⟩
      obtain ⟨O1, G1, π1, d, R1, S1, r1, p1⟩ := z
      exact hs _ _ _ _ _ _ _ _ _ R1 r1 p1⟩
  · exact ⟨pe_imp (pe_callTy hc hg mg hb ha.pa nn nd he hpl) fun σ H Q q => by
      obtain ⟨O, G, ρ, π, R, p⟩ := q
      refine ⟨O, G, ρ, π, R, Post.imp (Post.chain (rep1 := rBs X) p) fun v H1 z => ?_⟩
      obtain ⟨O1, G1, π1, d, R1, S1, r1, p1⟩ := z
      exact hs _ _ _ _ _ _ _ _ _ R1 r1 p1⟩
theorem rBs.one {vs : List V} {d : D} (h : rBs X O G H vs [d]) : ∃ v, vs = [v] ∧ rB X O G H v d := by
  cases h with
  | cons a t => cases t; exact ⟨_, rfl, a⟩
theorem rBs.two {vs : List V} {d e : D} (h : rBs X O G H vs [d, e]) : ∃ v w, vs = [v, w] ∧ rB X O G H v d ∧ rB X O G H w e := by
  cases h with
  | cons a t =>
    obtain ⟨w, rfl, b⟩ := t.one
    exact ⟨_, w, rfl, a, b⟩
/-- len -/
def lenM : List D → EM D
  | [.lst xs] => pure (.int xs.length)
  | [.tup xs] => pure (.int xs.length)
  | [.str z] => if z.length ≤ sizeLine then pure (.int z.length) else EM.bad
  | _ => EM.bad
theorem b_len (hm : X.mg "len" = none) : BltR X wd W "len" lenM := ⟨hm, by decide, by decide, .inl ⟨_, _, PySem.boot_len, call_len, fun O G σ H ρ π Q vs ds R r p => by
  unfold lenM at p
  split at p
  · next xs =>
    obtain ⟨v, rfl, h⟩ := r.one
    obtain ⟨a, ws, rfl, q1, q2⟩ := h.i_lst R
    exact ⟨_, xs.length, rfl, .inl ⟨ws, SqL.of q1, q2.length.symm⟩, Post.give (d := .int xs.length) p R (.int _)⟩
  · next xs =>
    obtain ⟨v, rfl, h⟩ := r.one
    obtain ⟨a, ws, rfl, q1, q2, _⟩ := h.i_tup R
    exact ⟨_, xs.length, rfl, .inr ⟨ws, q1, q2.length.symm⟩, Post.give (d := .int xs.length) p R (.int _)⟩
  · next z =>
    obtain ⟨v, rfl, h⟩ := r.one
    obtain rfl := h.i_str
    split at p
    · next hz => exact ⟨_, z.length, rfl, ⟨hz, rfl⟩, Post.give (d := .int z.length) p R (.int _)⟩
    · exact (post_bad p).elim
  · exact (post_bad p).elim⟩⟩
def absM : List D → EM D
  | [.int i] => pure (.int (if i < 0 then -i else i))
  | _ => EM.bad
theorem b_abs (hm : X.mg "abs" = none) : BltR X wd W "abs" absM := ⟨hm, by decide, by decide, .inl ⟨_, _, by decide +kernel, call_abs, fun O G σ H ρ π Q vs ds R r p => by
  unfold absM at p
  split at p
  · next i =>
    obtain ⟨v, rfl, h⟩ := r.one
    obtain rfl := h.i_int
    exact ⟨i, rfl, Post.give (d := .int _) p R (.int _)⟩
  · exact (post_bad p).elim⟩⟩
def intM : List D → EM D
  | [.int i] => pure (.int i)
  | [.bl k] => pure (.int (if k then 1 else 0))
  | _ => EM.bad
theorem b_int (hm : X.mg "int" = none) : BltR X wd W "int" intM := ⟨hm, by decide, by decide, .inr ⟨_, _, by decide +kernel, call_int1, fun O G σ H ρ π Q vs ds R r p => by
  unfold intM at p
  split at p
  · next i =>
    obtain ⟨v, rfl, h⟩ := r.one
    obtain rfl := h.i_int
    exact .inl ⟨i, rfl, Post.give (d := .int _) p R (.int _)⟩
  · next k =>
    obtain ⟨v, rfl, h⟩ := r.one
    obtain rfl := h.i_bl
    exact .inr ⟨k, rfl, Post.give (d := .int _) p R (.int _)⟩
  · exact (post_bad p).elim⟩⟩
def strM : List D → EM D
  | [.int i] => if i.natAbs.log2 < 1920 then pure (.str (toString i)) else EM.bad
  | _ => EM.bad
theorem b_str (hm : X.mg "str" = none) : BltR X wd W "str" strM := ⟨hm, by decide, by decide, .inr ⟨_, _, by decide +kernel, call_str_int, fun O G σ H ρ π Q vs ds R r p => by
  unfold strM at p
  split at p
  · next i =>
    obtain ⟨v, rfl, h⟩ := r.one
    obtain rfl := h.i_int
    split at p
    · next e => exact ⟨i, rfl, e, Post.give (d := .str _) p R (.str _)⟩
    · exact (post_bad p).elim
  · exact (post_bad p).elim⟩⟩
/-- rows of ints, of truth values -/
def asInts : List D → Option (List Int)
  | [] => some []
  | .int i :: r => (asInts r).map (i :: ·)
  | _ => none
def asBls : List D → Option (List Bool)
  | [] => some []
  | .bl i :: r => (asBls r).map (i :: ·)
  | _ => none
theorem asInts_vs {M : Md} : ∀ {ds : List D} {vs : List V} {ns : List Int}, asInts ds = some ns → DpAll M G vs ds → vs = ns.map V.int
  | [], _, _, h, .nil => by cases h; rfl
  | .int i :: r, _, ns, h, .cons a t => by
    obtain ⟨q, h1, rfl⟩ := Option.map_eq_some_iff.mp (show (asInts r).map (i :: ·) = some ns from h)
    rw [asInts_vs h1 t, a.i_int]
    rfl
  | .non :: _, _, _, h, _ => by cases h
  | .bl _ :: _, _, _, h, _ => by cases h
  | .str _ :: _, _, _, h, _ => by cases h
  | .tup _ :: _, _, _, h, _ => by cases h
  | .lst _ :: _, _, _, h, _ => by cases h
  | .dct _ :: _, _, _, h, _ => by cases h
  | .obj _ _ :: _, _, _, h, _ => by cases h
  | .raw _ :: _, _, _, h, _ => by cases h
theorem asBls_vs {M : Md} : ∀ {ds : List D} {vs : List V} {ns : List Bool}, asBls ds = some ns → DpAll M G vs ds → vs = ns.map V.bl
  | [], _, _, h, .nil => by cases h; rfl
  | .bl i :: r, _, ns, h, .cons a t => by
    obtain ⟨q, h1, rfl⟩ := Option.map_eq_some_iff.mp (show (asBls r).map (i :: ·) = some ns from h)
    rw [asBls_vs h1 t, a.i_bl]
    rfl
  | .non :: _, _, _, h, _ => by cases h
  | .int _ :: _, _, _, h, _ => by cases h
  | .str _ :: _, _, _, h, _ => by cases h
  | .tup _ :: _, _, _, h, _ => by cases h
  | .lst _ :: _, _, _, h, _ => by cases h
  | .dct _ :: _, _, _, h, _ => by cases h
  | .obj _ _ :: _, _, _, h, _ => by cases h
  | .raw _ :: _, _, _, h, _ => by cases h
theorem asInts_map (ns : List Int) : asInts (ns.map D.int) = some ns := by
  induction ns with
  | nil => rfl
  | cons a r ih => simp [asInts, ih]
theorem asBls_map (ns : List Bool) : asBls (ns.map D.bl) = some ns := by
  induction ns with
  | nil => rfl
  | cons a r ih => simp [asBls, ih]
def allM : List D → EM D
  | [.lst xs] => ofO ((asBls xs).map fun bs => .bl (bs.all id))
  | _ => EM.bad
def anyM : List D → EM D
  | [.lst xs] => ofO ((asBls xs).map fun bs => .bl (bs.any id))
  | _ => EM.bad
def sumM : List D → EM D
  | [.lst xs] => ofO ((asInts xs).map fun bs => .int bs.sum)
  | _ => EM.bad
theorem b_all (hm : X.mg "all" = none) (hc : X.calm = true) : BltR X wd W "all" allM := ⟨hm, by decide, by decide, .inl ⟨_, _, by decide +kernel, cr_all hc, fun O G σ H ρ π Q vs ds R r p => by
  unfold allM at p
  split at p
  · next xs =>
    obtain ⟨v, rfl, h⟩ := r.one
    obtain ⟨a, ws, rfl, q1, q2⟩ := h.i_lst R
    obtain ⟨d, q, p⟩ := post_ofO p
    obtain ⟨bs, e, rfl⟩ := Option.map_eq_some_iff.mp q
    rw [asBls_vs e q2] at q1
    exact ⟨a, bs, rfl, SqL.of q1, Post.give (d := .bl _) p R (.bl _)⟩
  · exact (post_bad p).elim⟩⟩
theorem b_any (hm : X.mg "any" = none) (hc : X.calm = true) : BltR X wd W "any" anyM := ⟨hm, by decide, by decide, .inl ⟨_, _, by decide +kernel, cr_any hc, fun O G σ H ρ π Q vs ds R r p => by
  unfold anyM at p
  split at p
  · next xs =>
    obtain ⟨v, rfl, h⟩ := r.one
    obtain ⟨a, ws, rfl, q1, q2⟩ := h.i_lst R
    obtain ⟨d, q, p⟩ := post_ofO p
    obtain ⟨bs, e, rfl⟩ := Option.map_eq_some_iff.mp q
    rw [asBls_vs e q2] at q1
    exact ⟨a, bs, rfl, SqL.of q1, Post.give (d := .bl _) p R (.bl _)⟩
  · exact (post_bad p).elim⟩⟩
theorem b_sum (hm : X.mg "sum" = none) (hc : X.calm = true) : BltR X wd W "sum" sumM := ⟨hm, by decide, by decide, .inl ⟨_, _, by decide +kernel, cr_sum hc, fun O G σ H ρ π Q vs ds R r p => by
  unfold sumM at p
  split at p
  · next xs =>
    obtain ⟨v, rfl, h⟩ := r.one
    obtain ⟨a, ws, rfl, q1, q2⟩ := h.i_lst R
    obtain ⟨d, q, p⟩ := post_ofO p
    obtain ⟨bs, e, rfl⟩ := Option.map_eq_some_iff.mp q
    rw [asInts_vs e q2] at q1
    exact ⟨a, bs, rfl, SqL.of q1, Post.give (d := .int _) p R (.int _)⟩
  · exact (post_bad p).elim⟩⟩
/-- the greatest, the least -/
def maxL : List Int → Int
  | [] => 0
  | x :: r => r.foldl (fun m y => if m < y then y else m) x
def minL : List Int → Int
  | [] => 0
  | x :: r => r.foldl (fun m y => if y < m then y else m) x
theorem foldl_max (r : List Int) : ∀ x, let m := r.foldl (fun m y => if m < y then y else m) x
    (m = x ∨ m ∈ r) ∧ x ≤ m ∧ ∀ y ∈ r, y ≤ m := by
  induction r with
  | nil => intro x; simp
  | cons y r ih =>
    intro x
    obtain ⟨h1, h2, h3⟩ := ih (if x < y then y else x)
    simp only [List.foldl_cons]
    refine ⟨?_, ?_, ?_⟩
    · rcases h1 with h1 | h1
      · by_cases c : x < y
        · right; rw [h1, if_pos c]; exact List.mem_cons_self
        · left; rw [h1, if_neg c]
      · right; exact List.mem_cons_of_mem _ h1
    · exact Int.le_trans (by split <;> omega) h2
    · intro z hz
      rcases List.mem_cons.mp hz with rfl | hz
      · exact Int.le_trans (by split <;> omega) h2
      · exact h3 z hz
theorem foldl_min (r : List Int) : ∀ x, let m := r.foldl (fun m y => if y < m then y else m) x
    (m = x ∨ m ∈ r) ∧ m ≤ x ∧ ∀ y ∈ r, m ≤ y := by
  induction r with
  | nil => intro x; simp
  | cons y r ih =>
    intro x
    obtain ⟨h1, h2, h3⟩ := ih (if y < x then y else x)
    simp only [List.foldl_cons]
    refine ⟨?_, ?_, ?_⟩
    · rcases h1 with h1 | h1
      · by_cases c : y < x
        · right; rw [h1, if_pos c]; exact List.mem_cons_self
        · left; rw [h1, if_neg c]
      · right; exact List.mem_cons_of_mem _ h1
    · exact Int.le_trans h2 (by split <;> omega)
    · intro z hz
      rcases List.mem_cons.mp hz with rfl | hz
      · exact Int.le_trans h2 (by split <;> omega)
      · exact h3 z hz
theorem maxL_mem {l : List Int} (h : l ≠ []) : maxL l ∈ l := by
  cases l with
  | nil => exact absurd rfl h
  | cons x r =>
    rcases (foldl_max r x).1 with e | e
    · show r.foldl _ x ∈ _
      rw [e]; exact List.mem_cons_self
    · exact List.mem_cons_of_mem _ e
theorem maxL_ge {l : List Int} {y : Int} (h : y ∈ l) : y ≤ maxL l := by
  cases l with
  | nil => cases h
  | cons x r =>
    rcases List.mem_cons.mp h with rfl | h
    · exact (foldl_max r y).2.1
    · exact (foldl_max r x).2.2 y h
theorem minL_mem {l : List Int} (h : l ≠ []) : minL l ∈ l := by
  cases l with
  | nil => exact absurd rfl h
  | cons x r =>
    rcases (foldl_min r x).1 with e | e
    · show r.foldl _ x ∈ _
      rw [e]; exact List.mem_cons_self
    · exact List.mem_cons_of_mem _ e
theorem minL_le {l : List Int} {y : Int} (h : y ∈ l) : minL l ≤ y := by
  cases l with
  | nil => cases h
  | cons x r =>
    rcases List.mem_cons.mp h with rfl | h
    · exact (foldl_min r y).2.1
    · exact (foldl_min r x).2.2 y h
def ne1 (l : List Int) : Option (List Int) := if l.isEmpty then none else some l
def maxM : List D → EM D
  | [.lst xs] => ofO (((asInts xs).bind ne1).map fun ns => .int (maxL ns))
  | [.int i, .int j] => pure (.int (if j > i then j else i))
  | _ => EM.bad
def minM : List D → EM D
  | [.lst xs] => ofO (((asInts xs).bind ne1).map fun ns => .int (minL ns))
  | [.int i, .int j] => pure (.int (if j < i then j else i))
  | _ => EM.bad
theorem ne1_some {o : Option (List Int)} {ns : List Int} (h : o.bind ne1 = some ns) : o = some ns ∧ ns ≠ [] := by
  cases o with
  | none => cases h
  | some l =>
    have h' : ne1 l = some ns := h
    unfold ne1 at h'
    split at h'
    · cases h'
    · next q =>
      cases h'
      exact ⟨rfl, fun z => q (by rw [z]; rfl)⟩
theorem b_max (hm : X.mg "max" = none) (hc : X.calm = true) : BltR X wd W "max" maxM := ⟨hm, by decide, by decide, .inl ⟨_, _, by decide +kernel, (cr_max hc).or (call_max2 hc), fun O G σ H ρ π Q vs ds R r p => by
  unfold maxM at p
  split at p
  · next xs =>
    obtain ⟨v, rfl, h⟩ := r.one
    obtain ⟨a, ws, rfl, q1, q2⟩ := h.i_lst R
    obtain ⟨d, q, p⟩ := post_ofO p
    obtain ⟨bs, e, rfl⟩ := Option.map_eq_some_iff.mp q
    obtain ⟨e, ne⟩ := ne1_some e
    rw [asInts_vs e q2] at q1
    refine .inl ⟨a, bs, rfl, SqL.of q1, List.length_pos_iff.mpr ne, fun m h1 h2 => ?_⟩
    have em : maxL bs = m := Int.le_antisymm (h2 _ (maxL_mem ne)) (maxL_ge h1)
    rw [em] at p
    exact Post.give (d := .int _) p R (.int _)
  · next i j =>
    obtain ⟨v, w, rfl, h1, h2⟩ := r.two
    obtain rfl := h1.i_int
    obtain rfl := h2.i_int
    exact .inr ⟨i, j, rfl, Post.give (d := .int _) p R (.int _)⟩
  · exact (post_bad p).elim⟩⟩
theorem b_min (hm : X.mg "min" = none) (hc : X.calm = true) : BltR X wd W "min" minM := ⟨hm, by decide, by decide, .inl ⟨_, _, by decide +kernel, (cr_min hc).or (call_min2 hc), fun O G σ H ρ π Q vs ds R r p => by
  unfold minM at p
  split at p
  · next xs =>
    obtain ⟨v, rfl, h⟩ := r.one
    obtain ⟨a, ws, rfl, q1, q2⟩ := h.i_lst R
    obtain ⟨d, q, p⟩ := post_ofO p
    obtain ⟨bs, e, rfl⟩ := Option.map_eq_some_iff.mp q
    obtain ⟨e, ne⟩ := ne1_some e
    rw [asInts_vs e q2] at q1
    refine .inl ⟨a, bs, rfl, SqL.of q1, List.length_pos_iff.mpr ne, fun m h1 h2 => ?_⟩
    have em : minL bs = m := Int.le_antisymm (minL_le h1) (h2 _ (minL_mem ne))
    rw [em] at p
    exact Post.give (d := .int _) p R (.int _)
  · next i j =>
    obtain ⟨v, w, rfl, h1, h2⟩ := r.two
    obtain rfl := h1.i_int
    obtain rfl := h2.i_int
    exact .inr ⟨i, j, rfl, Post.give (d := .int _) p R (.int _)⟩
  · exact (post_bad p).elim⟩⟩
def tupleM : List D → EM D
  | [.lst xs] => pure (.tup xs)
  | [.tup xs] => pure (.tup xs)
  | _ => EM.bad
theorem b_tuple (hm : X.mg "tuple" = none) : BltR X wd W "tuple" tupleM := ⟨hm, by decide, by decide, .inr ⟨_, _, by decide +kernel, call_tuple_of, fun O G σ H ρ π Q vs ds R r p => by
  unfold tupleM at p
  split at p
  · next xs =>
    obtain ⟨v, rfl, h⟩ := r.one
    obtain ⟨a, ws, rfl, q1, q2⟩ := h.i_lst R
    exact ⟨a, ws, rfl, .inl ⟨SqL.of q1, fun c n => Post.giveT p R q2 n⟩⟩
  · next xs =>
    obtain ⟨v, rfl, h⟩ := r.one
    obtain ⟨a, ws, rfl, q1, q2, q3⟩ := h.i_tup R
    exact ⟨a, ws, rfl, .inr ⟨q1, Post.give (d := .tup xs) p R (.tup q3 q2)⟩⟩
  · exact (post_bad p).elim⟩⟩
def listM : List D → EM (List D)
  | [.lst xs] => pure xs
  | [.tup xs] => pure xs
  | _ => EM.bad
theorem b_list (hm : X.mg "list" = none) : BltF X wd W "list" listM := ⟨hm, by decide, by decide, .inr ⟨_, _, by decide +kernel, call_list_of, fun O G σ H ρ π Q vs ds R r p => by
  unfold listM at p
  split at p
  · next xs =>
    obtain ⟨v, rfl, h⟩ := r.one
    obtain ⟨a, ws, rfl, q1, q2⟩ := h.i_lst R
    exact ⟨a, ws, rfl, .inl (SqL.of q1), fun c n => Post.giveF p R q2 n⟩
  · next xs =>
    obtain ⟨v, rfl, h⟩ := r.one
    obtain ⟨a, ws, rfl, q1, q2, q3⟩ := h.i_tup R
    exact ⟨a, ws, rfl, .inr q1, fun c n => Post.giveF p R q2 n⟩
  · exact (post_bad p).elim⟩⟩
/-! ### isinstance -/
def D.ty : D → Option String
  | .non => some "NoneType"
  | .bl _ => some "bool"
  | .int _ => some "int"
  | .str _ => some "str"
  | .tup _ => some "tuple"
  | .lst _ => some "list"
  | .dct _ => some "dict"
  | .obj _ _ => none
  | .raw _ => none
  | .frz _ => none
def instB (a T : String) : Bool := a == T || (a == "bool" && T == "int")
def okTys : List String := ["int", "bool", "str", "tuple", "list", "dict"]
def okOwn : List String := ["NoneType", "bool", "int", "str", "tuple", "list", "dict"]
theorem kit_all : (okOwn.all fun a => okTys.all fun T => decide (kitB a T = some (instB a T))) = true := by decide +kernel
theorem kit_in {a T : String} (ha : a ∈ okOwn) (hT : T ∈ okTys) : kitB a T = some (instB a T) := of_decide_eq_true (List.all_eq_true.mp (List.all_eq_true.mp kit_all a ha) T hT)
theorem D.ty_in {d : D} {a : String} (h : d.ty = some a) : a ∈ okOwn := by
  cases d <;> simp [D.ty] at h <;> subst h <;> decide
def asTys : List D → Option (List String)
  | [] => some []
  | .raw (.ty T) :: r => if T ∈ okTys then (asTys r).map (T :: ·) else none
  | _ => none
def instM : List D → EM D
  | [d, .raw (.ty T)] => ofO (d.ty.bind fun a => if T ∈ okTys then some (.bl (instB a T)) else none)
  | [d, .tup cs] => ofO (d.ty.bind fun a => (asTys cs).map fun Ts => .bl (Ts.any fun T => instB a T))
  | _ => EM.bad
theorem rB.tyx {v : V} {d : D} {a : String} (R : RW (md X) wd O G σ H ρ π) (h : rB X O G H v d) (e : d.ty = some a) : TyX X.K H v (.type a) := by
  rcases h with h | ⟨a, vs, xs, i, h1, h2, h3, h4, h5⟩
  · cases h with
    | non => cases e; exact .base .non
    | bl b => cases e; exact .base (.bl _)
    | int i => cases e; exact .base (.int _)
    | str s => cases e; exact .base (.str _)
    | tup h _ =>
      cases e
      rcases h with h | ⟨o, its, n, h, h', _⟩
      · exact .base (.tup (R.sub _ _ h))
      · exact .kTuple h h'
    | lst h _ => cases e; exact .base (.lst (R.sub _ _ h))
    | dct h _ => cases e; exact .base (.dK (R.sub _ _ h))
    | obj _ _ _ => cases e
    | raw _ => cases e
    | frz _ _ => cases e
  · subst h1 h2
    cases e
    exact .base (.lst h4)
theorem asTys_vs {M : Md} : ∀ {ds : List D} {vs : List V} {ns : List String}, asTys ds = some ns → DpAll M G vs ds → vs = ns.map V.ty ∧ ∀ T ∈ ns, T ∈ okTys
  | [], _, _, h, .nil => by cases h; exact ⟨rfl, fun _ z => by cases z⟩
  | .raw (.ty T) :: r, _, ns, h, .cons a t => by
    have h' : (if T ∈ okTys then (asTys r).map (T :: ·) else none) = some ns := h
    split at h'
    · next c =>
      obtain ⟨q, h1, rfl⟩ := Option.map_eq_some_iff.mp h'
      obtain ⟨e1, e2⟩ := asTys_vs h1 t
      rw [e1]
      cases a
      refine ⟨rfl, fun T' z => ?_⟩
      rcases List.mem_cons.mp z with rfl | z
      · exact c
      · exact e2 _ z
    · cases h'
  | .raw .non :: _, _, _, h, _ => by cases h
  | .raw (.bl _) :: _, _, _, h, _ => by cases h
  | .raw (.int _) :: _, _, _, h, _ => by cases h
  | .raw (.str _) :: _, _, _, h, _ => by cases h
  | .raw (.byt _) :: _, _, _, h, _ => by cases h
  | .raw (.flt _) :: _, _, _, h, _ => by cases h
  | .raw (.ref _) :: _, _, _, h, _ => by cases h
  | .non :: _, _, _, h, _ => by cases h
  | .bl _ :: _, _, _, h, _ => by cases h
  | .int _ :: _, _, _, h, _ => by cases h
  | .str _ :: _, _, _, h, _ => by cases h
  | .tup _ :: _, _, _, h, _ => by cases h
  | .lst _ :: _, _, _, h, _ => by cases h
  | .dct _ :: _, _, _, h, _ => by cases h
  | .obj _ _ :: _, _, _, h, _ => by cases h
theorem clsV_all : ∀ Ts : List String, Paired ClsV (Ts.map V.ty) (Ts.map Value.type)
  | [] => .nil
  | T :: r => .cons (.ty T) (clsV_all r)
theorem kitAny_all {K : PySem.W.Frag} {a : String} (ha : a ∈ okOwn) : ∀ Ts : List String, (∀ T ∈ Ts, T ∈ okTys) → PySem.W.kitAny K (.type a) (Ts.map Value.type) = some (Ts.any fun T => instB a T)
  | [], _ => kitAny_nil
  | T :: r, h => by
    have h1 : PySem.W.kitOne K (.type a) (.type T) = some (instB a T) := kit_ty (kit_in ha (h T List.mem_cons_self))
    refine kitAny_cons h1 (fun e => ?_) (fun e => ?_)
    · rw [kitAny_all ha r (fun T hT => h T (List.mem_cons_of_mem _ hT)), List.any_cons, e, Bool.false_or]
    · rw [List.any_cons, e, Bool.true_or]
theorem vals_ty : ∀ {Ts : List String} {us : List Value}, Vals (Ts.map V.ty) us → us = Ts.map Value.type
  | [], _, .nil => rfl
  | T :: r, _, .cons h t => by
    rw [vals_ty t]
    cases (show _ = Value.type T from h)
    rfl
theorem b_isinstance (hm : X.mg "isinstance" = none) : BltR X wd W "isinstance" instM := ⟨hm, by decide, by decide, .inl ⟨_, _, by decide +kernel, call_isi.or (call_isiT.or call_isiK), fun O G σ H ρ π Q vs ds R r p => by
  unfold instM at p
  split at p
  · next d T =>
    obtain ⟨v, w, rfl, h1, h2⟩ := r.two
    obtain ⟨dd, q, p⟩ := post_ofO p
    obtain ⟨a, e, q⟩ := Option.bind_eq_some_iff.mp q
    split at q
    · next c =>
      cases q
      obtain rfl := h2.i_raw
      exact .inl ⟨v, .ty T, .type a, .type T, instB a T, rfl, .ty T, h1.tyx R e, kit_ty (kit_in (D.ty_in e) c), Post.give (d := .bl _) p R (.bl _)⟩
    · cases q
  · next d cs =>
    obtain ⟨v, w, rfl, h1, h2⟩ := r.two
    obtain ⟨dd, q, p⟩ := post_ofO p
    obtain ⟨a, e, q⟩ := Option.bind_eq_some_iff.mp q
    obtain ⟨Ts, e2, rfl⟩ := Option.map_eq_some_iff.mp q
    obtain ⟨tp, ws, rfl, q1, q2, q3⟩ := h2.i_tup R
    obtain ⟨e3, e4⟩ := asTys_vs e2 q2
    have k := kitAny_all (K := X.K) (D.ty_in e) Ts e4
    rcases q3 with q3 | ⟨o, its, n, q3, q4, q5, _, q6⟩
    · exact .inr (.inl ⟨v, tp, ws, .type a, Ts.map Value.type, _, rfl, R.sub _ _ q3, by rw [e3]; exact clsV_all Ts, h1.tyx R e, k, Post.give (d := .bl _) p R (.bl _)⟩)
    · rw [e3] at q6
      have e5 := vals_ty q6
      obtain ⟨oc, od, odt, osl⟩ := o
      dsimp only at q4 q5
      subst q4 q5
      refine .inr (.inr ⟨v, tp, od, Ts.map Value.type, n, osl, .type a, _, rfl, ?_, h1.tyx R e, k, Post.give (d := .bl _) p R (.bl _)⟩)
      rw [q3, ← e5, Array.toArray_toList]
  · exact (post_bad p).elim⟩⟩
end
end DL

/-! What is walked, comprehensions, calls of defs over the data layer. -/
namespace DL
open PySem PySem.Spec PyProof.Rows L2
section
variable {M : Md} {wd : Wd} {O O' : Own} {G G' : Hp} {σ σ' : L2.St} {H H' : Hp} {ρ ρ' : Ev} {π π' : Rt}
/-! ### slots -/
theorem get_set_eq {α : Type} {l : List α} {i : Nat} {x y : α} (h : (l.set i x)[i]? = some y) : y = x := by
  rw [List.getElem?_set] at h
  simp only [if_true] at h
  split at h
  · exact (Option.some.inj h).symm
  · cases h
theorem SlotRep.set {i j : Nat} {v : Option V} {sv : SV} (h : SlotRep M wd O G H σ j sv) (ne : i ≠ j) : SlotRep M wd O G H (σ.set i v) j sv := by
  cases sv with
  | dat d =>
    obtain ⟨v, h1, h2⟩ := h
    exact ⟨v, by rw [List.getElem?_set_ne ne]; exact h1, h2⟩
  | lst xs =>
    obtain ⟨a, vs, h1, h2⟩ := h
    exact ⟨a, vs, by rw [List.getElem?_set_ne ne]; exact h1, h2⟩
  | root =>
    obtain ⟨a, h1, h2⟩ := h
    exact ⟨a, h1, by rw [List.getElem?_set_ne ne]; exact h2⟩
  | exn e =>
    obtain ⟨a, c, dx, h1, h2, h3⟩ := h
    exact ⟨a, c, dx, h1, by rw [List.getElem?_set_ne ne]; exact h2, h3⟩
/-- the slots alone -/
theorem RW.slots (R : RW M wd O G σ H ρ π) (hl : σ'.length = ρ'.length) (hs : ∀ i sv, ρ'[i]? = some (some sv) → SlotRep M wd O G H σ' i sv) : RW M wd O G σ' H ρ' π :=
  ⟨R.g0, R.sub, R.new, R.nt, R.keep, R.there, R.jj, R.own, R.root, hl, hs⟩
theorem RW.setDat (R : RW M wd O G σ H ρ π) {i : Nat} {v : V} {d : D} (h : Dp M G v d) : RW M wd O G (σ.set i (some v)) H (ρ.set i (some (.dat d))) π := by
  refine R.slots (by rw [List.length_set, List.length_set]; exact R.len) fun j sv e => ?_
  by_cases ij : i = j
  · subst ij
    have hi : i < ρ.length := by
      have := (List.getElem?_eq_some_iff.mp e).1
      rwa [List.length_set] at this
    have es := get_set_eq e
    cases es
    exact ⟨v, List.getElem?_set_self (by rw [R.len]; exact hi), h⟩
  · rw [List.getElem?_set_ne ij] at e
    exact (R.slot j sv e).set ij
theorem RW.unset (R : RW M wd O G σ H ρ π) {i : Nat} : RW M wd O G (σ.set i none) H (ρ.set i none) π := by
  refine R.slots (by rw [List.length_set, List.length_set]; exact R.len) fun j sv e => ?_
  by_cases ij : i = j
  · subst ij
    cases get_set_eq e
  · rw [List.getElem?_set_ne ij] at e
    exact (R.slot j sv e).set ij
def wipeE (ρ : Ev) : List Nat → Ev
  | [] => ρ
  | v :: vs => (wipeE ρ vs).set v none
theorem RW.wipe (R : RW M wd O G σ H ρ π) : ∀ vs, RW M wd O G (L2.wipe σ vs) H (wipeE ρ vs) π
  | [] => R
  | _ :: vs => (RW.wipe R vs).unset
/-- the slots as they were, the world as it is behind a step -/
theorem RW.back (R : RW M wd O G σ H ρ π) (R' : RW M wd O' G' σ' H' ρ' π') (S : Step O G H O' G' H') : RW M wd O' G' σ H' ρ π' :=
  R'.slots R.len fun i sv e => (R.slot i sv e).mono S.sg fun b o h1 h2 => ⟨S.fr b o h1 (by rw [h2]; exact fun z => by cases z) (fun ps z => by
    obtain ⟨_, ⟨u, q1, q2⟩, _⟩ := R.own b _ h2
    rw [h1] at q1; cases q1
    rw [z] at q2
    exact q2 True.intro), S.oo b i h2⟩
/-- a list of nobody's is changed -/
theorem RW.poke (R : RW M wd O G σ H ρ π) {p : Addr} {xs ys : List V} (hp : H p = some (.lst xs)) (gp : G p = none) (op : O p = none) (h0 : wd.H0 p = none) : RW M wd O G σ (upd H p (.lst ys)) ρ π := by
  have ne : ∀ b, G b ≠ none → b ≠ p := fun b h z => h (by rw [z]; exact gp)
  have k : ∀ b o, H b = some o → b ≠ p → upd H p (.lst ys) b = some o := fun b o h z => by rw [upd_ne z]; exact h
  refine ⟨R.g0, fun b o h => k b o (R.sub b o h) (ne b (by rw [h]; exact fun z => by cases z)), R.new, R.nt, fun b o h1 h2 h3 => k b o (R.keep b o h1 h2 h3) (fun z => by rw [z, h0] at h3; cases h3), fun b h => ?_,
    wd.jst _ _ R.jj fun b o h f => k b o h (fun z => by rw [z, hp] at h; cases h; exact f), fun b w h => ?_, ?_, R.len, fun i sv e => (R.slot i sv e).mono (Same.refl _) fun b o h1 h2 => ⟨k b o h1 (fun z => by rw [z, op] at h2; cases h2), h2⟩⟩
  · by_cases z : b = p
    · subst z; rw [upd_same]; exact fun z => by cases z
    · rw [upd_ne z]; exact R.there b h
  · obtain ⟨a1, ⟨u, a2, a3⟩, a4⟩ := R.own b w h
    exact ⟨a1, ⟨u, k b u a2 (fun z => by rw [z, op] at h; cases h), a3⟩, a4⟩
  · exact R.root.mono (Same.refl _) fun b o h1 h2 => k b o h1 (fun z => by rw [z, op] at h2; cases h2)
theorem Step.poke {O G H O' G' H' : _} (S : Step O G H O' G' H') {p : Addr} {o : HO} (hp : H p = none) : Step O G H O' G' (upd H' p o) :=
  ⟨S.sg, fun b u h1 h2 h3 => by rw [upd_ne (ne_of_none h1 hp)]; exact S.fr b u h1 h2 h3, S.oo, S.on⟩
end
theorem wipe_get (σ : L2.St) (i : Nat) : ∀ vs : List Nat, (L2.wipe σ vs)[i]? = if i ∈ vs then (if i < σ.length then some none else none) else σ[i]?
  | [] => by simp [L2.wipe]
  | v :: vs => by
    unfold L2.wipe
    rw [List.getElem?_set, L2.wipe_length]
    by_cases e : v = i
    · subst e
      simp
    · rw [if_neg e, wipe_get σ i vs]
      have : (i ∈ v :: vs) ↔ i ∈ vs := by
        rw [List.mem_cons]
        exact ⟨fun z => z.elim (fun q => absurd q.symm e) id, .inr⟩
      simp only [this]
theorem wipe_ext {σ τ : L2.St} {vs : List Nat} (hl : σ.length = τ.length) (h : ∀ i, i ∉ vs → σ[i]? = τ[i]?) : L2.wipe σ vs = L2.wipe τ vs := by
  refine List.ext_getElem? fun i => ?_
  rw [wipe_get, wipe_get, hl]
  by_cases e : i ∈ vs
  · rw [if_pos e, if_pos e]
  · rw [if_neg e, if_neg e, h i e]

section
variable {X : Cx} {wd : Wd} {W : WS} {O : Own} {G : Hp} {σ : L2.St} {H : Hp} {ρ : Ev} {π : Rt}
/-! ### targets -/
abbrev GM := D → Ev → Option Ev
abbrev GsM := List D → Ev → Option Ev
def tgG (X : Cx) (wd : Wd) (ts : List Nat) (g : GM) : TG := fun v σ H Q => ∃ O G ρ π d ρ', RW (md X) wd O G σ H ρ π ∧ Dp (md X) G v d ∧ g d ρ = some ρ' ∧
  ∀ σ', RW (md X) wd O G σ' H ρ' π → σ'.length = σ.length → (∀ i, i ∉ ts → σ'[i]? = σ[i]?) → Q σ' H
def tgGs (X : Cx) (wd : Wd) (ts : List Nat) (g : GsM) : TGs := fun v σ H Q => ∃ O G ρ π d ρ', RW (md X) wd O G σ H ρ π ∧ DpAll (md X) G v d ∧ g d ρ = some ρ' ∧
  ∀ σ', RW (md X) wd O G σ' H ρ' π → σ'.length = σ.length → (∀ i, i ∉ ts → σ'[i]? = σ[i]?) → Q σ' H
structure DG (X : Cx) (wd : Wd) (tg : Expr) (ts : List Nat) (g : GM) : Prop where
  pg : PG X tg (tgG X wd ts g)
structure DGs (X : Cx) (wd : Wd) (tg : List Expr) (ts : List Nat) (g : GsM) : Prop where
  pg : PGs X tg (tgGs X wd ts g)
theorem pg_imp {tg : Expr} {t t' : TG} (h : PG X tg t) (k : ∀ v σ H Q, t' v σ H Q → t v σ H Q) : PG X tg t' := ⟨fun pins s σ H v u Q I r q => h.run pins s σ H v u Q I r (k _ _ _ _ q)⟩
theorem pgs_imp {tg : List Expr} {t t' : TGs} (h : PGs X tg t) (k : ∀ v σ H Q, t' v σ H Q → t v σ H Q) : PGs X tg t' := ⟨fun pins s σ H v u Q I r q => h.run pins s σ H v u Q I r (k _ _ _ _ q)⟩
def gN (i : Nat) : GM := fun d ρ => some (ρ.set i (some (.dat d)))
theorem dg_name (i : Nat) {x : Str} {pos : Pos} (hN : X.N.Nodup) (hi : X.N[i]? = some x := by rfl) (hx : Loc X.env.scope x := by first | exact Or.inl rfl | exact Or.inr rfl) (hf : X.fn x = true ∨ X.env.scope.names.lookup x = some .local := by first | exact .inl rfl | exact .inr rfl) : DG X wd (.Name x pos) [i] (gN i) := ⟨pg_imp (pg_name hN hi hx hf) fun v σ H Q q => by
  obtain ⟨O, G, ρ, π, d, ρ', R, h, e, q⟩ := q
  cases e
  refine q _ (R.setDat h) (List.length_set ..) fun j hj => List.getElem?_set_ne (fun z => hj (by rw [z]; exact List.mem_cons_self))⟩
def gNil_ : GsM := fun ds ρ => match ds with
  | [] => some ρ
  | _ => none
def gCons_ (g : GM) (gs : GsM) : GsM := fun ds ρ => match ds with
  | d :: r => (g d ρ).bind (gs r)
  | _ => none
theorem dgs_nil : DGs X wd [] [] gNil_ := ⟨pgs_imp pgs_nil fun v σ H Q q => by
  obtain ⟨O, G, ρ, π, d, ρ', R, h, e, q⟩ := q
  cases h with
  | nil =>
    cases e
    exact ⟨rfl, q σ R rfl fun _ _ => rfl⟩
  | cons _ _ => cases e⟩
theorem dgs_cons {e : Expr} {es : List Expr} {ts1 ts2 : List Nat} {g : GM} {gs : GsM} (h1 : DG X wd e ts1 g) (h2 : DGs X wd es ts2 gs) (hs : (assignEach (e :: es) X.env).map (·.2) = assign e X.env :: (assignEach es X.env).map (·.2) := by rfl) : DGs X wd (e :: es) (ts1 ++ ts2) (gCons_ g gs) := ⟨pgs_imp (pgs_cons h1.pg h2.pg hs) fun v σ H Q q => by
  obtain ⟨O, G, ρ, π, d, ρ', R, h, e, q⟩ := q
  cases h with
  | nil => cases e
  | cons a t =>
    obtain ⟨ρ1, e1, e2⟩ := Option.bind_eq_some_iff.mp e
    refine ⟨_, _, rfl, O, G, ρ, π, _, ρ1, R, a, e1, fun σ1 R1 l1 k1 => ?_⟩
    refine ⟨O, G, ρ1, π, _, ρ', R1, t, e2, fun σ2 R2 l2 k2 => q σ2 R2 (l2.trans l1) fun i hi => ?_⟩
    rw [k2 i (fun z => hi (List.mem_append_right _ z)), k1 i (fun z => hi (List.mem_append_left _ z))]⟩
def gT (n : Nat) (gs : GsM) : GM := fun d ρ => match d with
  | .tup ds => if ds.length = n then gs ds ρ else none
  | _ => none
theorem dg_tup {es : List Expr} {k : Nat} {ts : List Nat} {gs : GsM} {n : Nat} {pos : Pos} (hc : X.calm = true) (h : DGs X wd es ts gs) (hn : (assignEach es X.env).length = n := by rfl) (hst : (assignEach es X.env).findIdx? (·.1) = none := by rfl) : DG X wd (.Tuple es k pos) ts (gT n gs) := ⟨pg_imp (pg_tup hc h.pg hn hst) fun v σ H Q q => by
  obtain ⟨O, G, ρ, π, d, ρ', R, h, e, q⟩ := q
  unfold gT at e
  split at e
  · next ds =>
    split at e
    · next c =>
      cases h with
      | tup h1 h2 => exact ⟨_, _, rfl, (h1.mono R.sub).sqT, h2.length.trans c, O, G, ρ, π, ds, ρ', R, h2, e, q⟩
    · cases e
  · cases e⟩

/-! ### what is walked -/
/-- one turn of J, at the i-th of ds -/
theorem none_of_len {ds : List D} {i : Nat} (h : i = ds.length) : ds[i]? = none := List.getElem?_eq_none (Nat.le_of_eq h.symm)
def ItAt (X : Cx) (wd : Wd) (J : It) (ds : List D) (i : Nat) (O : Own) (G : Hp) (σ : L2.St) (H : Hp) (ρ : Ev) (π : Rt) : Prop :=
  (∀ d, ds[i]? = some d → J.go i H ∧ ∀ x H1, J.yld i H x H1 → ∃ G1, RW (md X) wd O G1 σ H1 ρ π ∧ Step O G H O G1 H1 ∧ Dp (md X) G1 x d) ∧ (i = ds.length → J.stop i H)
/-- stable; while nothing but steps are done -/
def rItS (X : Cx) (wd : Wd) : Own → Hp → Hp → It → List D → Prop := fun _ G0 _ J ds => ∀ i O G σ H ρ π, Same G0 G → RW (md X) wd O G σ H ρ π → ItAt X wd J ds i O G σ H ρ π
def rItB (X : Cx) (wd : Wd) : Own → Hp → Hp → It → List D → Prop := fun O0 G0 H0 J ds => ∀ i O G σ H ρ π, Step O0 G0 H0 O G H → RW (md X) wd O G σ H ρ π → ItAt X wd J ds i O G σ H ρ π
structure DI (X : Cx) (wd : Wd) (W : WS) (tg iter : Expr) (w : Ev → EM (List D)) : Prop where
  pi : PI X tg iter (tG X wd W (rItB X wd) w)
structure DIS (X : Cx) (wd : Wd) (W : WS) (tg iter : Expr) (w : Ev → EM (List D)) : Prop where
  pi : PI X tg iter (tG X wd W (rItS X wd) w)
variable {tg iter e : Expr} {wa : Ev → EM D}
theorem pi_imp {wi wi' : TI} (h : PI X tg iter wi) (k : ∀ σ H R, wi' σ H R → wi σ H R) : PI X tg iter wi' := ⟨fun pins s σ H R I q => h.run pins s σ H R I (k _ _ _ q)⟩
theorem pi_or {wi wi' : TI} (h : PI X tg iter wi) (h' : PI X tg iter wi') : PI X tg iter (fun σ H R => wi σ H R ∨ wi' σ H R) := ⟨fun pins s σ H R I q => q.elim (h.run pins s σ H R I) (h'.run pins s σ H R I)⟩
theorem DIS.di {w : Ev → EM (List D)} (h : DIS X wd W tg iter w) : DI X wd W tg iter w := ⟨pi_imp h.pi fun σ H Q q => by
  obtain ⟨O, G, ρ, π, R, p⟩ := q
  refine ⟨O, G, ρ, π, R, ?_⟩
  cases e : w ρ π with
  | ok a π' => rw [e] at p; exact fun b O' G' H' R S q => p b O' G' H' R S (fun i O2 G2 σ2 H2 ρ2 π2 S2 R2 => q i O2 G2 σ2 H2 ρ2 π2 S2.sg R2)
  | exc e' π' => rw [e] at p; exact p
  | bad => rw [e] at p; exact p⟩
def chars (z : Str) : List D := z.cps.toList.map fun c => .str ⟨#[c]⟩
def itemsM : D → EM (List D)
  | .lst xs => pure xs
  | .tup xs => pure xs
  | .str z => pure (chars z)
  | _ => EM.bad
def eItems (w : Ev → EM D) : Ev → EM (List D) := fun ρ => do
  let x ← w ρ
  itemsM x
theorem it_list {a : Addr} {vs : List V} {ds : List D} {O : Own} {G : Hp} {σ : L2.St} {H : Hp} {ρ : Ev} {π : Rt} (R : RW (md X) wd O G σ H ρ π) (h : H a = some (.lst vs)) (hd : DpAll (md X) G vs ds) (i : Nat) : ItAt X wd (Itl X.K a) ds i O G σ H ρ π := by
  refine ⟨fun d hd' => ?_, fun hn0 => (fun hn => ?_) (none_of_len hn0)⟩
  · obtain ⟨v, e1, e2⟩ := hd.get hd'
    refine ⟨⟨vs, v, SqL.of h, e1⟩, fun x H1 y => ?_⟩
    obtain ⟨rfl, y⟩ := y
    have e3 := y vs (SqL.of h)
    rw [e1] at e3
    cases e3
    exact ⟨G, R, Step.refl _ _ _, e2⟩
  · exact ⟨vs, SqL.of h, by rw [hd.length]; exact List.getElem?_eq_none_iff.mp hn⟩
theorem it_tup {a : Addr} {vs : List V} {ds : List D} {O : Own} {G : Hp} {σ : L2.St} {H : Hp} {ρ : Ev} {π : Rt} (R : RW (md X) wd O G σ H ρ π) (h : SqT X.K H a vs) (hd : DpAll (md X) G vs ds) (i : Nat) : ItAt X wd (Itt X.K a) ds i O G σ H ρ π := by
  refine ⟨fun d hd' => ?_, fun hn0 => (fun hn => ?_) (none_of_len hn0)⟩
  · obtain ⟨v, e1, e2⟩ := hd.get hd'
    refine ⟨⟨vs, v, h, e1⟩, fun x H1 y => ?_⟩
    obtain ⟨rfl, y⟩ := y
    have e3 := y vs h
    rw [e1] at e3
    cases e3
    exact ⟨G, R, Step.refl _ _ _, e2⟩
  · exact ⟨vs, h, by rw [hd.length]; exact List.getElem?_eq_none_iff.mp hn⟩
theorem it_str {z : Str} {O : Own} {G : Hp} {σ : L2.St} {H : Hp} {ρ : Ev} {π : Rt} (R : RW (md X) wd O G σ H ρ π) (i : Nat) : ItAt X wd (Its z) (chars z) i O G σ H ρ π := by
  refine ⟨fun d hd' => ?_, fun hn0 => (fun hn => ?_) (none_of_len hn0)⟩
  · unfold chars at hd'
    rw [List.getElem?_map] at hd'
    obtain ⟨c, e1, e2⟩ := Option.map_eq_some_iff.mp hd'
    subst e2
    have hi : i < z.cps.size := by
      have := (List.getElem?_eq_some_iff.mp e1).1
      simpa using this
    refine ⟨hi, fun x H1 y => ?_⟩
    obtain ⟨rfl, c', e3, rfl⟩ := y
    have e4 : z.cps[i]? = some c := by simpa using e1
    rw [e4] at e3
    cases e3
    exact ⟨G, R, Step.refl _ _ _, .str _⟩
  · unfold chars at hn
    have := List.getElem?_eq_none_iff.mp hn
    show z.cps.size ≤ i
    simpa using this
theorem di_seq (he : DB X wd W iter wa) : DI X wd W tg iter (eItems wa) := ⟨pi_imp (pi_or (pi_list (tg := tg) he.pe) (pi_or (pi_tup (tg := tg) he.pe) (pi_str (tg := tg) he.pe))) fun σ H Q q => by
  obtain ⟨O, G, ρ, π, R, p⟩ := q
  have p : Post X wd W (rItB X wd) O G σ H ρ Q ((wa ρ π).bind fun x π => itemsM x π) := p
  have go : ∀ {C : V → Hp → Prop}, (∀ O' G' H' π' d v, wa ρ π = .ok d π' → RW (md X) wd O' G' σ H' ρ π' → Step O G H O' G' H' → rB X O' G' H' v d → Post X wd W (rItB X wd) O' G' σ H' ρ Q (itemsM d π') → C v H') → (∀ e π', wa ρ π = .exc e π' → Post X wd W (rB X) O G σ H ρ C (.exc e π')) → Post X wd W (rB X) O G σ H ρ C (wa ρ π) := fun {C} k1 k2 => by
    cases e : wa ρ π with
    | ok d π' => exact fun v O' G' H' R S r => k1 O' G' H' π' d v e R S r (by rw [e] at p; exact Post.shift p S)
    | exc e' π' => exact k2 _ _ e
    | bad => rw [e] at p; exact p
  have px : ∀ {C : V → Hp → Prop} e π', wa ρ π = .exc e π' → Post X wd W (rB X) O G σ H ρ C (.exc e π') := fun {C} e' π' e => by rw [e] at p; exact p
  cases e : wa ρ π with
  | ok d π0 =>
    cases d with
    | lst xs =>
      refine .inl ⟨O, G, ρ, π, R, go (fun O' G' H' π' d v e' R' S r p' => ?_) px⟩
      rw [e] at e'; cases e'
      obtain ⟨a, vs, rfl, q1, q2⟩ := r.i_lst R'
      refine ⟨a, rfl, ⟨vs, SqL.of q1⟩, p' _ _ _ _ R' (Step.refl _ _ _) fun i O2 G2 σ2 H2 ρ2 π2 S2 R2 => ?_⟩
      rcases r with r | ⟨a', vs', xs', j, h1, h2, h3, h4, h5⟩
      · cases r with
        | lst h1 h2 => exact it_list R2 (R2.sub _ _ (S2.sg _ _ h1)) (h2.mono S2.sg) i
      · cases h1; cases h2
        rw [q1] at h4; cases h4
        exact it_list R2 (S2.fr _ _ q1 (by rw [h3]; exact fun z => by cases z) (fun _ z => by cases z)) (q2.mono S2.sg) i
    | tup xs =>
      refine .inr (.inl ⟨O, G, ρ, π, R, go (fun O' G' H' π' d v e' R' S r p' => ?_) px⟩)
      rw [e] at e'; cases e'
      obtain ⟨a, vs, rfl, q1, q2, q3⟩ := r.i_tup R'
      exact ⟨a, rfl, ⟨vs, q1⟩, p' _ _ _ _ R' (Step.refl _ _ _) fun i O2 G2 σ2 H2 ρ2 π2 S2 R2 => it_tup R2 ((q3.mono S2.sg).mono R2.sub).sqT (q2.mono S2.sg) i⟩
    | str z =>
      refine .inr (.inr ⟨O, G, ρ, π, R, go (fun O' G' H' π' d v e' R' S r p' => ?_) px⟩)
      rw [e] at e'; cases e'
      exact ⟨z, r.i_str, p' _ _ _ _ R' (Step.refl _ _ _) fun i O2 G2 σ2 H2 ρ2 π2 S2 R2 => it_str R2 i⟩
    | _ => rw [e] at p; exact p.elim
  | exc e' π' => exact .inl ⟨O, G, ρ, π, R, go (fun O' G' H' π'' d v q _ _ _ _ => by rw [e] at q; cases q) px⟩
  | bad => rw [e] at p; exact p.elim⟩
theorem dis_seq (he : DE X wd W iter wa) : DIS X wd W tg iter (eItems wa) := ⟨pi_imp (pi_or (pi_list (tg := tg) he.pe) (pi_or (pi_tup (tg := tg) he.pe) (pi_str (tg := tg) he.pe))) fun σ H Q q => by
  obtain ⟨O, G, ρ, π, R, p⟩ := q
  have p : Post X wd W (rItS X wd) O G σ H ρ Q ((wa ρ π).bind fun x π => itemsM x π) := p
  have go : ∀ {C : V → Hp → Prop}, (∀ O' G' H' π' d v, wa ρ π = .ok d π' → RW (md X) wd O' G' σ H' ρ π' → Step O G H O' G' H' → Dp (md X) G' v d → Post X wd W (rItS X wd) O' G' σ H' ρ Q (itemsM d π') → C v H') → (∀ e π', wa ρ π = .exc e π' → Post X wd W (rD X) O G σ H ρ C (.exc e π')) → Post X wd W (rD X) O G σ H ρ C (wa ρ π) := fun {C} k1 k2 => by
    cases e : wa ρ π with
    | ok d π' => exact fun v O' G' H' R S r => k1 O' G' H' π' d v e R S r (by rw [e] at p; exact Post.shift p S)
    | exc e' π' => exact k2 _ _ e
    | bad => rw [e] at p; exact p
  have px : ∀ {C : V → Hp → Prop} e π', wa ρ π = .exc e π' → Post X wd W (rD X) O G σ H ρ C (.exc e π') := fun {C} e' π' e => by rw [e] at p; exact p
  cases e : wa ρ π with
  | ok d π0 =>
    cases d with
    | lst xs =>
      refine .inl ⟨O, G, ρ, π, R, go (fun O' G' H' π' d v e' R' S r p' => ?_) px⟩
      rw [e] at e'; cases e'
      cases r with
      | @lst a vs _ h1 h2 => exact ⟨a, rfl, ⟨vs, SqL.of (R'.sub _ _ h1)⟩, p' _ _ _ _ R' (Step.refl _ _ _) fun i O2 G2 σ2 H2 ρ2 π2 S2 R2 => it_list R2 (R2.sub _ _ (S2 _ _ h1)) (h2.mono S2) i⟩
    | tup xs =>
      refine .inr (.inl ⟨O, G, ρ, π, R, go (fun O' G' H' π' d v e' R' S r p' => ?_) px⟩)
      rw [e] at e'; cases e'
      cases r with
      | @tup a vs _ h1 h2 => exact ⟨a, rfl, ⟨vs, (h1.mono R'.sub).sqT⟩, p' _ _ _ _ R' (Step.refl _ _ _) fun i O2 G2 σ2 H2 ρ2 π2 S2 R2 => it_tup R2 ((h1.mono S2).mono R2.sub).sqT (h2.mono S2) i⟩
    | str z =>
      refine .inr (.inr ⟨O, G, ρ, π, R, go (fun O' G' H' π' d v e' R' S r p' => ?_) px⟩)
      rw [e] at e'; cases e'
      exact ⟨z, by cases r; rfl, p' _ _ _ _ R' (Step.refl _ _ _) fun i O2 G2 σ2 H2 ρ2 π2 S2 R2 => it_str R2 i⟩
    | _ => rw [e] at p; exact p.elim
  | exc e' π' => exact .inl ⟨O, G, ρ, π, R, go (fun O' G' H' π'' d v q _ _ _ _ => by rw [e] at q; cases q) px⟩
  | bad => rw [e] at p; exact p.elim⟩
/-- ranges -/
def rng (lo : Int) (n : Nat) : List D := (List.range n).map fun (i : Nat) => .int (lo + i)
theorem it_rng {lo : Int} {n : Nat} {O : Own} {G : Hp} {σ : L2.St} {H : Hp} {ρ : Ev} {π : Rt} (R : RW (md X) wd O G σ H ρ π) (i : Nat) : ItAt X wd (Itr lo n) (rng lo n) i O G σ H ρ π := by
  refine ⟨fun d hd' => ?_, fun hn0 => (fun hn => ?_) (none_of_len hn0)⟩
  · unfold rng at hd'
    rw [List.getElem?_map] at hd'
    obtain ⟨c, e1, e2⟩ := Option.map_eq_some_iff.mp hd'
    subst e2
    obtain ⟨hi, e1⟩ := List.getElem?_eq_some_iff.mp e1
    rw [List.getElem_range] at e1
    subst e1
    rw [List.length_range] at hi
    refine ⟨hi, fun x H1 y => ?_⟩
    obtain ⟨rfl, rfl⟩ := y
    exact ⟨G, R, Step.refl _ _ _, .int _⟩
  · unfold rng at hn
    have := List.getElem?_eq_none_iff.mp hn
    rw [List.length_map, List.length_range] at this
    exact this
def inR (i : Int) : Bool := decide (-(2 ^ 62) ≤ i) && decide (i < 2 ^ 62)
theorem inR_of {i : Int} (h : inR i = true) : -(2 ^ 62) ≤ i ∧ i < 2 ^ 62 := by
  unfold inR at h
  rw [Bool.and_eq_true] at h
  exact ⟨of_decide_eq_true h.1, of_decide_eq_true h.2⟩
def rng1M : List D → EM (List D)
  | [.int j] => if inR j then pure (rng 0 j.toNat) else EM.bad
  | _ => EM.bad
def rng2M : List D → EM (List D)
  | [.int i, .int j] => if inR i && inR j then pure (rng i (j - i).toNat) else EM.bad
  | _ => EM.bad
theorem dis_range1 {a : Expr} {ws : Ev → EM (List D)} {p pos : Pos} (hm : X.mg "range" = none) (hg : Gl X "range") (ha : DA X wd W [a] ws) (hs : starEach [a] X.env = [(false, eval a X.env)] := by rfl) : DIS X wd W tg (.Call (.Name "range" p) [a] [] pos) (eCall rng1M ws) := ⟨pi_imp (pi_range1 hg hm ha.pa hs) fun σ H Q q => by
  obtain ⟨O, G, ρ, π, R, p⟩ := q
  refine ⟨O, G, ρ, π, R, Post.imp (Post.chain (rep1 := rDs X) p) fun v H1 z => ?_⟩
  obtain ⟨O1, G1, π1, ds, R1, S1, r1, p1⟩ := z
  have p2 : Post X wd W (rItS X wd) O1 G1 σ H1 ρ Q (rng1M ds π1) := p1
  clear p1
  unfold rng1M at p2
  split at p2
  · next j =>
    split at p2
    · next c =>
      cases r1 with
      | cons r1 t =>
        cases t
        obtain ⟨c1, c2⟩ := inR_of c
        exact ⟨j, by rw [r1.i_int], c1, c2, p2 _ _ _ _ R1 (Step.refl _ _ _) fun i O2 G2 σ2 H2 ρ2 π2 S2 R2 => it_rng R2 i⟩
    · exact (post_bad p2).elim
  · exact (post_bad p2).elim⟩
theorem dis_range2 {a b : Expr} {ws : Ev → EM (List D)} {p pos : Pos} (hm : X.mg "range" = none) (hg : Gl X "range") (ha : DA X wd W [a, b] ws) (hs : starEach [a, b] X.env = [(false, eval a X.env), (false, eval b X.env)] := by rfl) (hs2 : starEach [b] X.env = [(false, eval b X.env)] := by rfl) : DIS X wd W tg (.Call (.Name "range" p) [a, b] [] pos) (eCall rng2M ws) := ⟨pi_imp (pi_range2 hg hm ha.pa hs hs2) fun σ H Q q => by
  obtain ⟨O, G, ρ, π, R, p⟩ := q
  refine ⟨O, G, ρ, π, R, Post.imp (Post.chain (rep1 := rDs X) p) fun v H1 z => ?_⟩
  obtain ⟨O1, G1, π1, ds, R1, S1, r1, p1⟩ := z
  have p2 : Post X wd W (rItS X wd) O1 G1 σ H1 ρ Q (rng2M ds π1) := p1
  clear p1
  unfold rng2M at p2
  split at p2
  · next i j =>
    split at p2
    · next c =>
      rw [Bool.and_eq_true] at c
      cases r1 with
      | cons r1 t =>
        cases t with
        | cons r2 t =>
        cases t
        obtain ⟨c1, c2⟩ := inR_of c.1
        obtain ⟨c3, c4⟩ := inR_of c.2
        exact ⟨i, j, by rw [r1.i_int, r2.i_int], ⟨c1, c2, c3, c4⟩, p2 _ _ _ _ R1 (Step.refl _ _ _) fun i O2 G2 σ2 H2 ρ2 π2 S2 R2 => it_rng R2 i⟩
    · exact (post_bad p2).elim
  · exact (post_bad p2).elim⟩
end
end DL

/-! Comprehensions, calls of defs over the data layer. -/
namespace DL
open PySem PySem.Spec PyProof.Rows L2
def updO (O : Own) (p : Addr) (w : Option (Option Nat)) : Own := fun b => if b = p then w else O b
theorem updO_same {O : Own} {p : Addr} {w : Option (Option Nat)} : updO O p w p = w := if_pos rfl
theorem updO_ne {O : Own} {p b : Addr} {w : Option (Option Nat)} (h : b ≠ p) : updO O p w b = O b := if_neg h
section
variable {M : Md} {wd : Wd} {O O' : Own} {G G' : Hp} {σ σ' : L2.St} {H H' : Hp} {ρ ρ' : Ev} {π π' : Rt}
/-- an object of nobody's gets an owner -/
theorem RW.take (R : RW M wd O G σ H ρ π) {p : Addr} {o : HO} {k : Nat} (hp : H p = some o) (nf : ¬ Fixed o) (gp : G p = none) (op : O p = none) (h0 : wd.H0 p = none) : RW M wd (updO O p (some (some k))) G σ H ρ π := by
  have k1 : ∀ b w, O b = some w → updO O p (some (some k)) b = some w := fun b w h => by rw [updO_ne (fun z => by rw [z, op] at h; cases h)]; exact h
  refine ⟨R.g0, R.sub, R.new, R.nt, R.keep, R.there, R.jj, fun b w h => ?_, ?_, R.len, fun i sv e => (R.slot i sv e).mono (Same.refl _) fun b o h1 h2 => ⟨h1, k1 _ _ h2⟩⟩
  · by_cases z : b = p
    · subst z
      rw [updO_same] at h
      cases h
      exact ⟨gp, ⟨o, hp, nf⟩, h0⟩
    · rw [updO_ne z] at h
      exact R.own b w h
  · have := R.root
    cases π with
    | no => exact this
    | lst xs =>
      obtain ⟨a, vs, h1, h2, h3, h4⟩ := this
      exact ⟨a, vs, h1, k1 _ _ h2, h3, h4⟩
/-- an owned object of no slot's becomes nobody's -/
theorem RW.drop (R : RW M wd O G σ H ρ π) {p : Addr} {k : Nat} (op : O p = some (some k)) (hk : σ.length ≤ k) : RW M wd (updO O p none) G σ H ρ π := by
  have k1 : ∀ b w, O b = some w → w ≠ some k → updO O p none b = some w := fun b w h n => by rw [updO_ne (fun z => by rw [z, op] at h; cases h; exact n rfl)]; exact h
  refine ⟨R.g0, R.sub, R.new, R.nt, R.keep, R.there, R.jj, fun b w h => ?_, ?_, R.len, fun i sv e => (R.slot i sv e).mono (Same.refl _) fun b o h1 h2 => ⟨h1, k1 _ _ h2 fun z => ?_⟩⟩
  · by_cases z : b = p
    · subst z
      rw [updO_same] at h
      cases h
    · rw [updO_ne z] at h
      exact R.own b w h
  · have := R.root
    cases π with
    | no => exact this
    | lst xs =>
      obtain ⟨a, vs, h1, h2, h3, h4⟩ := this
      exact ⟨a, vs, h1, k1 _ _ h2 (fun z => by cases z), h3, h4⟩
  · have hi := (List.getElem?_eq_some_iff.mp e).1
    rw [← R.len] at hi
    cases z
    omega
/-- a list that no slot names is changed -/
theorem RW.pokeO (R : RW M wd O G σ H ρ π) {p : Addr} {xs ys : List V} {k : Nat} (hp : H p = some (.lst xs)) (op : O p = some (some k)) (hk : ∀ sv, ρ[k]? = some (some sv) → ∃ d, sv = .dat d ∨ sv = .root) : RW M wd O G σ (upd H p (.lst ys)) ρ π := by
  obtain ⟨gp, _, h0⟩ := R.own p _ op
  have h0 : wd.H0 p = none := h0
  have ne : ∀ b, G b ≠ none → b ≠ p := fun b h z => h (by rw [z]; exact gp)
  have kk : ∀ b o, H b = some o → b ≠ p → upd H p (.lst ys) b = some o := fun b o h z => by rw [upd_ne z]; exact h
  refine ⟨R.g0, fun b o h => kk b o (R.sub b o h) (ne b (by rw [h]; exact fun z => by cases z)), R.new, R.nt, fun b o h1 h2 h3 => kk b o (R.keep b o h1 h2 h3) (fun z => by rw [z, h0] at h3; cases h3), fun b h => ?_,
    wd.jst _ _ R.jj fun b o h f => kk b o h (fun z => by rw [z, hp] at h; cases h; exact f), fun b w h => ?_, ?_, R.len, fun i sv e => ?_⟩
  · by_cases z : b = p
    · subst z; rw [upd_same]; exact fun z => by cases z
    · rw [upd_ne z]; exact R.there b h
  · obtain ⟨a1, ⟨u, a2, a3⟩, a4⟩ := R.own b w h
    by_cases z : b = p
    · subst z
      exact ⟨a1, ⟨_, upd_same, fun f => f⟩, a4⟩
    · exact ⟨a1, ⟨u, kk b u a2 z, a3⟩, a4⟩
  · exact R.root.mono (Same.refl _) fun b o h1 h2 => kk b o h1 (fun z => by rw [z, op] at h2; cases h2)
  · by_cases ik : i = k
    · subst ik
      obtain ⟨d, rfl | rfl⟩ := hk sv e
      · exact R.slot i _ e
      · exact R.slot i _ e
    · exact (R.slot i sv e).mono (Same.refl _) fun b o h1 h2 => ⟨kk b o h1 (fun z => by rw [z, op] at h2; cases h2; exact ik rfl), h2⟩
end
def noX {α : Type} (x : EM α) : EM α := fun π => match x π with
  | .ok a π' => .ok a π'
  | _ => .bad
theorem noX_ok {α : Type} {x : EM α} {π π' : Rt} {a : α} (h : x π = .ok a π') : noX x π = .ok a π' := by unfold noX; rw [h]
def compGo (g : GM) (t : Ev → EM Bool) (f : Ev → EM D) (ρ : Ev) : List D → EM (List D)
  | [] => pure []
  | d :: ds => do
    let ρ' ← ofO (g d ρ)
    let k ← noX (t ρ')
    if k then (do
      let y ← noX (f ρ')
      let ys ← compGo g t f ρ ds
      pure (y :: ys)) else compGo g t f ρ ds
def most : Nat := 1000000
def eComp (w : Ev → EM (List D)) (g : GM) (t : Ev → EM Bool) (f : Ev → EM D) (vs : List Nat) : Ev → EM (List D) := fun ρ => do
  let ds ← w ρ
  if ds.length ≤ most then compGo g t f (wipeE ρ vs) ds else EM.bad
def W0 : WS := fun _ _ _ _ => False
structure DTs (X : Cx) (wd : Wd) (W : WS) (ifs : List Expr) (w : Ev → EM Bool) : Prop where
  pt : PTs X ifs (tG X wd W rT w)
theorem pts_imp {X : Cx} {ifs : List Expr} {t t' : TT} (h : PTs X ifs t) (k : ∀ σ H Q, t' σ H Q → t σ H Q) : PTs X ifs t' := ⟨fun pins s σ H Q I q => h.run pins s σ H Q I (k _ _ _ q)⟩
def tYes_ : Ev → EM Bool := fun _ => pure true
section
variable {X : Cx} {wd : Wd} {W : WS} {O : Own} {G : Hp} {σ : L2.St} {H : Hp} {ρ : Ev} {π : Rt}
theorem dts_nil : DTs X wd W [] tYes_ := ⟨pts_imp pts_nil fun σ H Q q => by
  obtain ⟨O, G, ρ, π, R, p⟩ := q
  exact p true _ _ _ R (Step.refl _ _ _) rfl⟩
theorem dts_one {c : Expr} {t : Ev → EM Bool} (h : DT X wd W c t) : DTs X wd W [c] t := ⟨pts_one h.pt⟩
theorem bind_ok {α β : Type} {x : EM α} {k : α → EM β} {π π' : Rt} {a : α} (h : x π = .ok a π') : (x >>= k) π = k a π' := by
  show (x π).bind k = _
  rw [h]
  rfl
theorem wipe_wipe (σ : L2.St) (vs : List Nat) : L2.wipe (L2.wipe σ vs) vs = L2.wipe σ vs := wipe_ext (L2.wipe_length _ _) fun i hi => by rw [wipe_get, if_neg hi]
theorem sem_comp {w : Ev → EM (List D)} {g : GM} {ts : List Nat} {t : Ev → EM Bool} {f : Ev → EM D} {own : List (Str × Nat)} (hts : ∀ i ∈ ts, i ∈ own.map (·.2)) {σ : L2.St} {H : Hp} {Q : VK} (q : tG X wd W (rF X wd) (eComp w g t f (own.map (·.2))) σ H Q) :
    tLc (tG X wd W (rItB X wd) w) (tgG X wd ts g) (tG X wd W0 rT t) (tG X wd W0 (rD X) f) (own.map (·.2)) σ H Q := by
  obtain ⟨O, G, ρ, π, R, p⟩ := q
  refine ⟨O, G, ρ, π, R, Post.imp (Post.chain (rep1 := rItB X wd) p) fun J H1 z => ?_⟩
  obtain ⟨O1, G1, π1, ds, R1, S1, r1, p1⟩ := z
  have p2 : Post X wd W (rF X wd) O1 G1 σ H1 ρ Q ((if ds.length ≤ most then compGo g t f (wipeE ρ (own.map (·.2))) ds else EM.bad : EM (List D)) π1) := p1
  clear p1 p
  split at p2
  case isFalse => exact (post_bad p2).elim
  next hlen =>
  intro Dd nD
  have hk : σ.length ≤ X.N.length + σ.length := Nat.le_add_left _ _
  generalize hkk : X.N.length + σ.length = kk at hk
  obtain ⟨RA, SA, gA, oA, hA⟩ := R1.alloc (o := .lst []) nD
  refine ⟨fun i m H => ∃ O' G' π' vacc acc, RW (md X) wd O' G' σ H ρ π' ∧ Step O1 G1 H1 O' G' H ∧ O' Dd = some (some kk) ∧ H Dd = some (.lst vacc) ∧ DpAll (md X) G' vacc acc ∧ i + m = ds.length ∧ acc.length ≤ i ∧
      Post X wd W (rF X wd) O1 G1 σ H1 ρ Q ((compGo g t f (wipeE ρ (own.map (·.2))) (ds.drop i) π').bind fun ys π'' => .ok (acc ++ ys) π''), ⟨ds.length, ?_⟩, fun i m H2 hW => ?_⟩
  · have RT := RA.take (k := kk) upd_same (fun f => f) gA oA hA
    refine ⟨_, G1, π1, [], [], RT, ⟨Same.refl _, SA.fr, fun b i h => ?_, fun b o h ho _ => ?_⟩, updO_same, upd_same, .nil, by omega, Nat.le_refl _, ?_⟩
    · rw [updO_ne (fun z => by rw [z, oA] at h; cases h)]; exact h
    · by_cases z : b = Dd
      · subst z; rw [nD] at ho; cases ho
      · rw [updO_ne z] at h; exact h
    · rw [List.drop_zero]
      have : ((compGo g t f (wipeE ρ (own.map (·.2))) ds π1).bind fun ys π'' => .ok ([] ++ ys) π'') = compGo g t f (wipeE ρ (own.map (·.2))) ds π1 := by
        cases compGo g t f (wipeE ρ (own.map (·.2))) ds π1 <;> rfl
      rw [this]
      exact p2
  · obtain ⟨O', G', π', vacc, acc, R', S', oD, hD, hacc, him, hai, hp⟩ := hW
    have nDk : wd.H0 Dd = none := hA
    have hit := r1 i O' G' σ H2 ρ π' S' R'
    by_cases hlt : i < ds.length
    case neg =>
      refine .inl ⟨hit.2 (by omega), ?_⟩
      rw [List.drop_eq_nil_of_le (by omega)] at hp
      have hp' : Post X wd W (rF X wd) O1 G1 σ H1 ρ Q (.ok (acc ++ []) π') := hp
      rw [List.append_nil] at hp'
      have gD : G' Dd = none := (R'.own Dd _ oD).1
      refine hp' _ (updO O' Dd none) G' H2 (R'.drop oD hk) ⟨S'.sg, S'.fr, fun b j h => ?_, fun b o h ho ht => ?_⟩ ⟨Dd, vacc, rfl, hD, gD, updO_same, nDk, hacc⟩
      · have nb : b ≠ Dd := fun z => by
          obtain ⟨_, ⟨u, q, _⟩, _⟩ := R1.own b _ h
          rw [z, nD] at q; cases q
        rw [updO_ne nb]
        exact S'.oo b j h
      · by_cases z : b = Dd
        · subst z; rw [updO_same] at h; cases h
        · rw [updO_ne z] at h; exact S'.on b o h ho ht
    case pos =>
      have hd : ds[i]? = some ds[i] := List.getElem?_eq_getElem hlt
      obtain ⟨go, yl⟩ := hit.1 _ hd
      rw [List.drop_eq_getElem_cons hlt] at hp
      have hp : Post X wd W (rF X wd) O1 G1 σ H1 ρ Q ((((ofO (g ds[i] (wipeE ρ (own.map (·.2)))) >>= fun ρ' => noX (t ρ') >>= fun k => if k = true then noX (f ρ') >>= fun y => compGo g t f (wipeE ρ (own.map (·.2))) (ds.drop (i + 1)) >>= fun ys => pure (y :: ys) else compGo g t f (wipeE ρ (own.map (·.2))) (ds.drop (i + 1))) : EM (List D)) π').bind fun ys π'' => .ok (acc ++ ys) π'') := hp
      refine .inr ⟨go, fun H' => ∃ m', m' < m ∧ ∃ O' G' π' vacc acc, RW (md X) wd O' G' σ H' ρ π' ∧ Step O1 G1 H1 O' G' H' ∧ O' Dd = some (some kk) ∧ H' Dd = some (.lst vacc) ∧ DpAll (md X) G' vacc acc ∧ i + 1 + m' = ds.length ∧ acc.length ≤ i + 1 ∧
        Post X wd W (rF X wd) O1 G1 σ H1 ρ Q ((compGo g t f (wipeE ρ (own.map (·.2))) (ds.drop (i + 1)) π').bind fun ys π'' => .ok (acc ++ ys) π''), fun H' h => h, fun x H3 hy => ?_⟩
      obtain ⟨G3, R3, S3, x3⟩ := yl x H3 hy
      cases eg : g ds[i] (wipeE ρ (own.map (·.2))) with
      | none => rw [eg] at hp; exact hp.elim
      | some ρ' =>
        rw [eg] at hp
        refine ⟨O', G3, wipeE ρ (own.map (·.2)), π', ds[i], ρ', R3.wipe _, x3, eg, fun σ4 R4 l4 k4 => ⟨?_, ?_⟩⟩
        · rw [wipe_ext (l4.trans rfl) fun j hj => k4 j fun z => hj (hts j z)]
          exact wipe_wipe _ _
        have hp : Post X wd W (rF X wd) O1 G1 σ H1 ρ Q (((noX (t ρ') >>= fun k => if k = true then noX (f ρ') >>= fun y => compGo g t f (wipeE ρ (own.map (·.2))) (ds.drop (i + 1)) >>= fun ys => pure (y :: ys) else compGo g t f (wipeE ρ (own.map (·.2))) (ds.drop (i + 1)) : EM (List D)) π').bind fun ys π'' => .ok (acc ++ ys) π'') := hp
        refine ⟨O', G3, ρ', π', R4, ?_⟩
        cases et : t ρ' π' with
        | exc e' π5 => rw [em_bind] at hp; unfold noX at hp; rw [et] at hp; exact hp.elim
        | bad => rw [em_bind] at hp; unfold noX at hp; rw [et] at hp; exact hp.elim
        | ok k π5 =>
          rw [bind_ok (noX_ok et)] at hp
          intro b O5 G5 H5 R5 S5 eb
          cases eb
          have T5 : Step O' G' H2 O5 G5 H5 := S3.trans S5
          have R5' : RW (md X) wd O5 G5 σ H5 ρ π5 := R3.back R5 S5
          cases k with
          | false =>
            rw [if_neg Bool.false_ne_true] at hp ⊢
            exact ⟨m - 1, by omega, O5, G5, π5, vacc, acc, R5', S'.trans T5, T5.oo _ _ oD, T5.fr _ _ hD (by rw [oD]; exact fun z => by cases z) (fun _ z => by cases z), hacc.mono T5.sg, by omega, by omega, hp⟩
          | true =>
            rw [if_pos rfl] at hp ⊢
            refine ⟨O5, G5, ρ', π5, R5, ?_⟩
            cases ef : f ρ' π5 with
            | exc e' π6 => rw [em_bind] at hp; unfold noX at hp; rw [ef] at hp; exact hp.elim
            | bad => rw [em_bind] at hp; unfold noX at hp; rw [ef] at hp; exact hp.elim
            | ok y π6 =>
              rw [bind_ok (noX_ok ef)] at hp
              intro yv O6 G6 H6 R6 S6 ey
              have T6 : Step O' G' H2 O6 G6 H6 := T5.trans S6
              have hD6 := T6.fr _ _ hD (by rw [oD]; exact fun z => by cases z) (fun _ z => by cases z)
              have oD6 := T6.oo _ _ oD
              have R6' : RW (md X) wd O6 G6 σ H6 ρ π6 := R5'.back R6 S6
              refine ⟨vacc, hD6, ?_, m - 1, by omega, O6, G6, π6, vacc ++ [yv], acc ++ [y], R6'.pokeO hD6 oD6 (fun sv z => ?_), (S'.trans T6).poke nD, oD6, upd_same, (hacc.mono T6.sg).append (.one ey), by omega, by simp; omega, ?_⟩
              · rw [hacc.length]
                exact Nat.lt_of_le_of_lt (Nat.le_trans hai (Nat.le_trans (Nat.le_of_lt hlt) hlen)) (by decide)
              · have := (List.getElem?_eq_some_iff.mp z).1
                rw [← R6'.len] at this
                omega
              · have e1 : ((compGo g t f (wipeE ρ (own.map (·.2))) (ds.drop (i + 1)) >>= fun ys => pure (y :: ys) : EM (List D)) π6).bind (fun ys π'' => Out.ok (acc ++ ys) π'') = (compGo g t f (wipeE ρ (own.map (·.2))) (ds.drop (i + 1)) π6).bind fun ys π'' => .ok ((acc ++ [y]) ++ ys) π'' := by
                  rw [em_bind]
                  cases compGo g t f (wipeE ρ (own.map (·.2))) (ds.drop (i + 1)) π6 with
                  | ok a π => show Out.ok (acc ++ y :: a) π = Out.ok ((acc ++ [y]) ++ a) π; rw [List.append_assoc]; rfl
                  | exc e π => rfl
                  | bad => rfl
                rw [← e1]
                exact hp
theorem df_comp {elt tg iter : Expr} {ifs : List Expr} {scope : Scope} {own : List (Str × Nat)} {pos : Pos} {w : Ev → EM (List D)} {g : GM} {ts : List Nat} {t : Ev → EM Bool} {f : Ev → EM D} (hc : X.calm = true) (hN : X.N.Nodup) (hi : DI X wd W tg iter w) (ok : BlkOk X.N X.env.scope scope own)
    (hts : ∀ i ∈ ts, i ∈ own.map (·.2)) (hg : ∀ (s : Shared) (H : Hp) (C : Addr) (cl : List (Str × Addr)) (fp : List Addr), DG (X.blk s H scope (compEnvC scope cl C X.env) fp) wd tg ts g)
    (ht : ∀ (s : Shared) (H : Hp) (C : Addr) (cl : List (Str × Addr)) (fp : List Addr), DTs (X.blk s H scope (compEnvC scope cl C X.env) fp) wd W0 ifs t)
    (he : ∀ (s : Shared) (H : Hp) (C : Addr) (cl : List (Str × Addr)) (fp : List Addr), DE (X.blk s H scope (compEnvC scope cl C X.env) fp) wd W0 elt f) (hs : ∀ x, foldedSetIterable iter X.env x = pure x := by intro _; rfl) :
    DF X wd W (.ListComp elt [⟨tg, iter, ifs, 0⟩] scope pos) (eComp w g t f (own.map (·.2))) :=
  ⟨pe_imp (pe_lc (g := tgG X wd ts g) (tt := tG X wd W0 rT t) (te := tG X wd W0 (rD X) f) hc hN hi.pi ok (fun s H C cl fp => (hg s H C cl fp).pg) (fun s H C cl fp => (ht s H C cl fp).pt) (fun s H C cl fp => (he s H C cl fp).pe) hs) fun σ H Q q => sem_comp hts q⟩
end
end DL

/-! Calls of defs over the data layer. -/
namespace DL
open PySem PySem.Spec PyProof.Rows L2
inductive RV where
  | dat (d : D)
  | lst (xs : List D)
inductive Pr (α : Type) where
  | ok (a : α)
  | exc (e : Exn)
  | bad
def lift {α : Type} (p : Pr α) : EM α := fun π => match p with
  | .ok a => .ok a π
  | .exc e => .exc e π
  | .bad => .bad
/-- the bound arguments; the root's place -/
inductive ArgsR (M : Md) (G : Hp) (r : Option Addr) : Option Nat → List V → List D → Prop
  | none {vs : List V} {ds : List D} : DpAll M G vs ds → ArgsR M G r none vs ds
  | here {a : Addr} {vs : List V} {ds : List D} : r = some a → DpAll M G vs ds → ArgsR M G r (some 0) (.ref a :: vs) ds
  | there {k : Nat} {v : V} {vs : List V} {d : D} {ds : List D} : Dp M G v d → ArgsR M G r (some k) vs ds → ArgsR M G r (some (k + 1)) (v :: vs) (d :: ds)
/-- the world of a def entered at H -/
def wdF (H G0 : Hp) (O0 : Own) (r : Option Addr) : Wd := ⟨H, G0, fun b => O0 b = some none, fun _ => True, false, r, none, fun _ _ _ _ => True.intro⟩
/-- behind a call -/
structure RetW (M : Md) (H G0 : Hp) (O0 : Own) (r : Option Addr) (O' : Own) (G' H' : Hp) (π' : Rt) : Prop where
  sg : Same G0 G'
  sub : Same G' H'
  new : ∀ b o, G' b = some o → G0 b = some o ∨ H b = none
  nt : ∀ b ps, G' b ≠ some (.tbl ps)
  fr : ∀ b o, H b = some o → O0 b ≠ some none → H' b = some o
  th : ∀ b, H b ≠ none → H' b ≠ none
  on : ∀ b, O' b = some none → O0 b = some none ∨ H b = none
  own : ∀ b, O' b = some none → G' b = none ∧ ∃ o, H' b = some o ∧ ¬ Fixed o
  root : RootRep M (wdF H G0 O0 r) O' G' H' π'
def RvRep (M : Md) (H : Hp) (O' : Own) (G' H' : Hp) (v : V) : RV → Prop
  | .dat d => Dp M G' v d
  | .lst xs => ∃ a vs, v = .ref a ∧ H' a = some (.lst vs) ∧ G' a = none ∧ H a = none ∧ O' a ≠ some none ∧ DpAll M G' vs xs
def AfterF (M : Md) (H G0 : Hp) (O0 : Own) (r : Option Addr) (Q : VK) (E : XK) : Out RV → Prop
  | .ok rv π' => ∀ v O' G' H', RetW M H G0 O0 r O' G' H' π' → RvRep M H O' G' H' v rv → Q v H'
  | .exc e π' => ∀ c dx O' G' H', RetW M H G0 O0 r O' G' H' π' → ExRep M G' c dx e → E c dx H'
  | .bad => False
/-- what a def promises -/
def spF (M : Md) (rt : Option Nat) (n : Nat) (F : List D → EM RV) : Sp := fun vs H Q E => ∃ (G0 : Hp) (O0 : Own) (r : Option Addr) (ds : List D) (π : Rt),
  vs.length = n ∧ Same G0 H ∧ (∀ b ps, G0 b ≠ some (.tbl ps)) ∧ (∀ b w, O0 b = some w → w = none ∧ G0 b = none ∧ ∃ o, H b = some o ∧ ¬ Fixed o) ∧ RootRep M (wdF H G0 O0 r) O0 G0 H π ∧ ArgsR M G0 r rt vs ds ∧
  AfterF M H G0 O0 r Q E (F ds π)
/-- a def of the module's -/
def FnG (P : Program) (w : World) (K : PySem.W.Frag) (mg : Str → Option Value) (base : Heap) (x : Str) (k : Nat) (rt : Option Nat) (n : Nat) (F : List D → EM RV) : Prop :=
  ∃ f fd ps, FnOk P w K mg base (L2.CX P w) k f fd ps (spF ⟨K, mg⟩ rt n F) ∧ mg x = some (.ref f) ∧ PySem.W.keepIn K (.ref f) = true ∧ Binds K fd ps []
theorem FnG.imp {P : Program} {w : World} {K : PySem.W.Frag} {mg : Str → Option Value} {base : Heap} {x : Str} {k : Nat} {rt : Option Nat} {n : Nat} {F F' : List D → EM RV} (h : FnG P w K mg base x k rt n F) (e : ∀ ds π, F' ds π ≠ .bad → F ds π = F' ds π) : FnG P w K mg base x k rt n F' := by
  obtain ⟨f, fd, ps, h1, h2⟩ := h
  refine ⟨f, fd, ps, h1.imp fun vs H Q E hs => ?_, h2⟩
  obtain ⟨G0, O0, r, ds, π, a0, a1, a2, a3, a4, a5, a6⟩ := hs
  refine ⟨G0, O0, r, ds, π, a0, a1, a2, a3, a4, a5, ?_⟩
  by_cases q : F' ds π = .bad
  · rw [q] at a6; exact a6.elim
  · rw [e ds π q]; exact a6
theorem FnG.mono {P : Program} {w : World} {K : PySem.W.Frag} {mg : Str → Option Value} {base : Heap} {x : Str} {k k' : Nat} {rt : Option Nat} {n : Nat} {F : List D → EM RV} (h : FnG P w K mg base x k rt n F) (e : k ≤ k') : FnG P w K mg base x k' rt n F := by
  obtain ⟨f, fd, ps, h1, h2⟩ := h
  exact ⟨f, fd, ps, h1.mono e, h2⟩
/-- a value of a call -/
def rRV (X : Cx) (wd : Wd) : Own → Hp → Hp → V → RV → Prop := fun O G H v rv => match rv with
  | .dat d => Dp (md X) G v d
  | .lst xs => rF X wd O G H v xs
structure DR (X : Cx) (wd : Wd) (W : WS) (e : Expr) (w : Ev → EM RV) : Prop where
  pe : PE X e (tG X wd W (rRV X wd) w)
def rAr (X : Cx) (wd : Wd) (rt : Option Nat) (n : Nat) : Own → Hp → Hp → List V → List D → Prop := fun _ G _ vs ds => ArgsR (md X) G wd.r rt vs ds ∧ vs.length = n
structure DAr (X : Cx) (wd : Wd) (W : WS) (rt : Option Nat) (es : List Expr) (w : Ev → EM (List D)) : Prop where
  pa : PA X es (tG X wd W (rAr X wd rt es.length) w)
def aRoot (i : Nat) (r : Ev → EM (List D)) : Ev → EM (List D) := fun ρ π => match ρ[i]? with
  | some (some .root) => r ρ π
  | _ => .bad
section
variable {X : Cx} {wd : Wd} {W : WS} {O : Own} {G : Hp} {σ : L2.St} {H : Hp} {ρ : Ev} {π : Rt}
theorem dar_nil : DAr X wd W none [] aNil := ⟨pa_imp pa_nil fun σ H Q q => by
  obtain ⟨O, G, ρ, π, R, p⟩ := q
  exact p [] O G H R (Step.refl _ _ _) ⟨.none .nil, rfl⟩⟩
theorem dar_root (i : Nat) {x : Str} {p : Pos} {es : List Expr} {w : Ev → EM (List D)} (h : DAr X wd W none es w) (hN : X.N[i]? = some x := by rfl) (hv : Vis X.env.scope x := by first | exact Or.inl rfl | exact Or.inr (Or.inl rfl) | exact Or.inr (Or.inr rfl)) (hd : (x == ("__debug__" : Str)) = false := by decide)
    (hcd : (x == ("__classdict__" : Str)) = false := by decide) (hs : starEach (.Name x p :: es) X.env = (false, eval (.Name x p) X.env) :: starEach es X.env := by rfl) : DAr X wd W (some 0) (.Name x p :: es) (aRoot i w) := ⟨pa_imp (pa_cons (pe_var hN hv hd hcd) h.pa hs) fun σ H Q q => by
  obtain ⟨O, G, ρ, π, R, p⟩ := q
  unfold aRoot at p
  split at p
  · next e =>
    obtain ⟨a, h1, h2⟩ := R.slot i _ e
    refine ⟨_, h2, O, G, ρ, π, R, Post.imp (C := fun vs H' => ∃ ds O' G' π', RW (md X) wd O' G' σ H' ρ π' ∧ w ρ π = .ok ds π' ∧ Step O G H O' G' H' ∧ DpAll (md X) G' vs ds ∧ vs.length = es.length) ?_ fun vs H' z => ?_⟩
    · cases e2 : w ρ π with
      | ok ds π' => exact fun vs O' G' H' R' S' ⟨r', l'⟩ => ⟨ds, O', G', π', R', rfl, S', (by cases r' with | none r' => exact r'), l'⟩
      | exc e' π' => rw [e2] at p; exact p
      | bad => rw [e2] at p; exact p
    · obtain ⟨ds, O', G', π', R', e2, S', r', l'⟩ := z
      rw [e2] at p
      exact p _ _ _ _ R' S' ⟨.here h1 r', congrArg (· + 1) l'⟩
  · exact p.elim⟩
theorem dar_cons {rt rt' : Option Nat} {e : Expr} {es : List Expr} {a : Ev → EM D} {r : Ev → EM (List D)} (ha : DE X wd W e a) (hr : DAr X wd W rt es r) (hrt : rt' = rt.map (· + 1) := by rfl) (hs : starEach (e :: es) X.env = (false, eval e X.env) :: starEach es X.env := by rfl) : DAr X wd W rt' (e :: es) (aCons a r) := ⟨pa_imp (pa_cons ha.pe hr.pa hs) fun σ H Q q => by
  obtain ⟨O, G, ρ, π, R, p⟩ := q
  refine ⟨O, G, ρ, π, R, Post.imp (Post.chain (o := a ρ π) p) fun v H1 z => ?_⟩
  obtain ⟨O1, G1, π1, d, R1, S1, r1, p1⟩ := z
  refine ⟨O1, G1, ρ, π1, R1, Post.imp (Post.chain (o := r ρ π1) p1) fun vs H2 z => ?_⟩
  obtain ⟨O2, G2, π2, ds, R2, S2, ⟨r2, l2⟩, p2⟩ := z
  refine p2 _ _ _ _ R2 (Step.refl _ _ _) ⟨?_, congrArg (· + 1) l2⟩
  subst hrt
  have r1' := Dp.mono S2.sg r1
  cases rt with
  | none => cases r2 with
    | none r2 => exact .none (.cons r1' r2)
  | some k => exact .there r1' r2⟩
def O0of (O : Own) : Own := fun b => match O b with
  | some none => some none
  | _ => none
theorem O0of_iff {O : Own} {b : Addr} : O0of O b = some none ↔ O b = some none := by
  unfold O0of
  cases O b with
  | none => exact Iff.rfl
  | some w => cases w <;> simp
theorem O0of_some {O : Own} {b : Addr} {w : Option Nat} (h : O0of O b = some w) : w = none ∧ O b = some none := by
  unfold O0of at h
  split at h
  · next e => cases h; exact ⟨rfl, e⟩
  · cases h
/-- the caller's world behind a call with its root -/
theorem RW.after (R : RW (md X) wd O G σ H ρ π) {O' : Own} {G' H' : Hp} {π' : Rt} (T : RetW (md X) H G (O0of O) wd.r O' G' H' π') :
    ∃ O2, RW (md X) wd O2 G' σ H' ρ π' ∧ Step O G H O2 G' H' ∧ (∀ b, H b = none → O' b ≠ some none → O2 b = none) := by
  classical
  refine ⟨fun b => if O' b = some none then some none else if O b = some none then none else O b, ?_⟩
  generalize hO : (fun b => if O' b = some none then some none else if O b = some none then none else O b : Own) = O2
  have e1 : ∀ b, O' b = some none → O2 b = some none := fun b h => by rw [← hO]; exact if_pos h
  have e2 : ∀ b w, O2 b = some w → (O' b = some none ∧ w = none) ∨ (O b = some w ∧ O b ≠ some none ∧ O' b ≠ some none) := fun b w h => by
    rw [← hO] at h
    dsimp only at h
    split at h
    · next q => cases h; exact .inl ⟨q, rfl⟩
    · next q =>
      split at h
      · cases h
      · next q' => exact .inr ⟨h, q', q⟩
  have e3 : ∀ b i, O b = some (some i) → O2 b = some (some i) := fun b i h => by
    have n : O' b ≠ some none := fun z => by
      rcases T.on b z with q | q
      · rw [O0of_iff] at q; rw [h] at q; cases q
      · obtain ⟨_, ⟨o, q', _⟩, _⟩ := R.own b _ h
        rw [q] at q'; cases q'
    rw [← hO]
    dsimp only
    rw [if_neg n, if_neg (by rw [h]; exact fun z => by cases z)]
    exact h
  have S : Step O G H O2 G' H' := ⟨T.sg, fun b o h1 h2 _ => T.fr b o h1 (fun z => h2 (O0of_iff.mp z)), e3, fun b o h ho _ => by
    rcases e2 b none h with ⟨q, _⟩ | ⟨q, _⟩
    · rcases T.on b q with z | z
      · exact O0of_iff.mp z
      · rw [ho] at z; cases z
    · exact q⟩
  refine ⟨⟨R.g0.trans T.sg, T.sub, fun b o h => ?_, T.nt, fun b o h1 h2 h3 => ?_, fun b h => T.th b (R.there b h), wd.jst _ _ R.jj fun b o h f => ?_, fun b w h => ?_, ?_, R.len, fun i sv e => (R.slot i sv e).mono T.sg fun b o h1 h2 => ⟨T.fr b o h1 (fun z => by rw [O0of_iff, h2] at z; cases z), e3 b i h2⟩⟩, S, fun b h n => ?_⟩
  · rcases T.new b o h with q | q
    · exact R.new b o q
    · refine .inr ?_
      cases q' : wd.H0 b with
      | none => rfl
      | some u => exact absurd q (R.there b (by rw [q']; exact fun z => by cases z))
  · refine T.fr b o (R.keep b o h1 h2 h3) fun z => ?_
    rcases (R.own b none (O0of_iff.mp z)).2.2 with q | q
    · exact h1 q
    · have q : wd.H0 b = none := q
      rw [h3] at q; cases q
  · refine T.fr b o h fun z => ?_
    obtain ⟨_, ⟨u, q, q'⟩, _⟩ := R.own b none (O0of_iff.mp z)
    rw [h] at q; cases q
    exact q' f
  · rcases e2 b w h with ⟨q, rfl⟩ | ⟨q, q1, q2⟩
    · obtain ⟨a1, a2⟩ := T.own b q
      refine ⟨a1, a2, ?_⟩
      rcases T.on b q with z | z
      · exact (R.own b none (O0of_iff.mp z)).2.2
      · refine .inr ?_
        cases q' : wd.H0 b with
        | none => rfl
        | some u => exact absurd z (R.there b (by rw [q']; exact fun z => by cases z))
    · obtain ⟨a1, ⟨u, a2, a3⟩, a4⟩ := R.own b w q
      refine ⟨?_, ⟨u, T.fr b u a2 (fun z => q1 (O0of_iff.mp z)), a3⟩, a4⟩
      cases q' : G' b with
      | none => rfl
      | some o =>
        rcases T.new b o q' with z | z
        · rw [a1] at z; cases z
        · rw [a2] at z; cases z
  · have := T.root
    cases π' with
    | no => exact this
    | lst xs =>
      obtain ⟨a, vs, h1, h2, h3, h4⟩ := this
      exact ⟨a, vs, h1, e1 _ h2, h3, h4⟩
  · have hb : O b = none := by
      cases q : O b with
      | none => rfl
      | some w =>
        obtain ⟨_, ⟨u, a2, _⟩, _⟩ := R.own b w q
        rw [h] at a2; cases a2
    rw [← hO]
    dsimp only
    rw [if_neg n, if_neg (by rw [hb]; exact fun z => by cases z), hb]
theorem dr_call {x : Str} {k n : Nat} {rt : Option Nat} {F : List D → EM RV} {e : Expr} {es : List Expr} {ws : Ev → EM (List D)} {p pos : Pos} (Fn : FnG X.prog X.w X.K X.mg X.base x k rt n F) (hr : Room k X.A) (hg : Gl X x) (hx : ∀ σ, PassesAt (L2.CX X.prog X.w) X σ (W σ)) (ha : DAr X wd W rt (e :: es) ws)
    (hl : (e :: es).length = n := by rfl) (hdb : (x == ("__debug__" : Str)) = false := by decide) (he : starEach (e :: es) X.env = (false, eval e X.env) :: starEach es X.env := by rfl) (hpl : (backTo pos (starEach es X.env)).any (·.1) = false := by rfl) :
    DR X wd W (.Call (.Name x p) (e :: es) [] pos) (eCall F ws) := by
  obtain ⟨f, fd, ps, h1, h2, h3, h4⟩ := Fn
  refine ⟨pe_imp (pe_callS (E := W) h1 hr hg h2 h3 h4 hx ha.pa hdb he hpl) fun σ H Q q => ?_⟩
  obtain ⟨O, G, ρ, π, R, p⟩ := q
  refine ⟨O, G, ρ, π, R, Post.imp (Post.chain (rep1 := rAr X wd rt (e :: es).length) p) fun vs H1 z => ?_⟩
  obtain ⟨O1, G1, π1, ds, R1, S1, ⟨r1, l1⟩, p1⟩ := z
  have hvn : vs.length = n := l1.trans hl
  refine ⟨G1, O0of O1, wd.r, ds, π1, hvn, R1.sub, R1.nt, fun b w h => ?_, ?_, r1, ?_⟩
  · obtain ⟨h5, h6⟩ := O0of_some h
    obtain ⟨a1, a2, _⟩ := R1.own b none h6
    exact ⟨h5, a1, a2⟩
  · have := R1.root
    cases π1 with
    | no => exact this
    | lst xs =>
      obtain ⟨a, vs, h1, h2, h3, h4⟩ := this
      exact ⟨a, vs, h1, O0of_iff.mpr h2, h3, h4⟩
  · cases eF : F ds π1 with
    | ok rv π2 =>
      rw [eF] at p1
      intro v O' G' H' T rep
      obtain ⟨O2, R2, S2, n2⟩ := R1.after T
      refine p1 v O2 G' H' R2 S2 ?_
      cases rv with
      | dat d => exact rep
      | lst xs =>
        obtain ⟨a, vs, q1, q2, q3, q4, q5, q6⟩ := rep
        refine ⟨a, vs, q1, q2, q3, n2 a q4 q5, ?_, q6⟩
        cases q' : wd.H0 a with
        | none => rfl
        | some u => exact absurd q4 (R1.there a (by rw [q']; exact fun z => by cases z))
    | exc e2 π2 =>
      rw [eF] at p1
      intro c dx O' G' H' T rep
      obtain ⟨O2, R2, S2, n2⟩ := R1.after T
      exact p1 c dx O2 G' H' R2 S2 rep
    | bad => rw [eF] at p1; exact p1.elim
end
end DL

/-! Statements over the data layer. -/
namespace DL
open PySem PySem.Spec PyProof.Rows L2
section
variable {M : Md} {wd : Wd} {O O' : Own} {G G' : Hp} {σ σ' : L2.St} {H H' : Hp} {ρ ρ' : Ev} {π π' : Rt}
/-- the own list of a slot is changed -/
theorem RW.write (R : RW M wd O G σ H ρ π) {i : Nat} {a : Addr} {xs xs' : List D} {vs vs' : List V} (hρ : ρ[i]? = some (some (.lst xs))) (hσ : σ[i]? = some (some (.ref a))) (op : O a = some (some i)) (hp : H a = some (.lst vs)) (hd : DpAll M G vs' xs') :
    RW M wd O G σ (upd H a (.lst vs')) (ρ.set i (some (.lst xs'))) π := by
  obtain ⟨gp, _, h0⟩ := R.own a _ op
  have h0 : wd.H0 a = none := h0
  have kk : ∀ b o, H b = some o → b ≠ a → upd H a (.lst vs') b = some o := fun b o h z => by rw [upd_ne z]; exact h
  refine ⟨R.g0, fun b o h => kk b o (R.sub b o h) (fun z => by rw [z, gp] at h; cases h), R.new, R.nt, fun b o h1 h2 h3 => kk b o (R.keep b o h1 h2 h3) (fun z => by rw [z, h0] at h3; cases h3), fun b h => ?_,
    wd.jst _ _ R.jj fun b o h f => kk b o h (fun z => by rw [z, hp] at h; cases h; exact f), fun b w h => ?_, ?_, ?_, fun j sv e => ?_⟩
  · by_cases z : b = a
    · subst z; rw [upd_same]; exact fun z => by cases z
    · rw [upd_ne z]; exact R.there b h
  · obtain ⟨a1, ⟨u, a2, a3⟩, a4⟩ := R.own b w h
    by_cases z : b = a
    · subst z
      exact ⟨a1, ⟨_, upd_same, fun f => f⟩, a4⟩
    · exact ⟨a1, ⟨u, kk b u a2 z, a3⟩, a4⟩
  · exact R.root.mono (Same.refl _) fun b o h1 h2 => kk b o h1 (fun z => by rw [z, op] at h2; cases h2)
  · rw [List.length_set]; exact R.len
  · by_cases ij : i = j
    · subst ij
      cases get_set_eq e
      exact ⟨a, vs', hσ, op, upd_same, hd⟩
    · rw [List.getElem?_set_ne ij] at e
      exact (R.slot j sv e).mono (Same.refl _) fun b o h1 h2 => ⟨kk b o h1 (fun z => by rw [z, op] at h2; cases h2; exact ij rfl), h2⟩
/-- the root list is changed -/
theorem RW.writeRoot (R : RW M wd O G σ H ρ π) {a : Addr} {xs' : List D} {vs vs' : List V} (hr : wd.r = some a) (op : O a = some none) (hp : H a = some (.lst vs)) (hd : DpAll M G vs' xs') : RW M wd O G σ (upd H a (.lst vs')) ρ (.lst xs') := by
  obtain ⟨gp, _, h0⟩ := R.own a _ op
  have kk : ∀ b o, H b = some o → b ≠ a → upd H a (.lst vs') b = some o := fun b o h z => by rw [upd_ne z]; exact h
  refine ⟨R.g0, fun b o h => kk b o (R.sub b o h) (fun z => by rw [z, gp] at h; cases h), R.new, R.nt, fun b o h1 h2 h3 => kk b o (R.keep b o h1 h2 h3) (fun z => ?_), fun b h => ?_,
    wd.jst _ _ R.jj fun b o h f => kk b o h (fun z => by rw [z, hp] at h; cases h; exact f), fun b w h => ?_, ⟨a, vs', hr, op, upd_same, hd⟩, R.len, fun j sv e => (R.slot j sv e).mono (Same.refl _) fun b o h1 h2 => ⟨kk b o h1 (fun z => by rw [z, op] at h2; cases h2), h2⟩⟩
  · rcases h0 with q | q
    · rw [z] at h1; exact h1 q
    · have q : wd.H0 a = none := q
      rw [z, q] at h3; cases h3
  · by_cases z : b = a
    · subst z; rw [upd_same]; exact fun z => by cases z
    · rw [upd_ne z]; exact R.there b h
  · obtain ⟨a1, ⟨u, a2, a3⟩, a4⟩ := R.own b w h
    by_cases z : b = a
    · subst z
      exact ⟨a1, ⟨_, upd_same, fun f => f⟩, a4⟩
    · exact ⟨a1, ⟨u, kk b u a2 z, a3⟩, a4⟩
/-- a list of nobody's, or of a hidden owner's, becomes a slot's own -/
theorem RW.setOwn (R : RW M wd O G σ H ρ π) {i : Nat} {p : Addr} {xs : List D} {vs : List V} (hp : H p = some (.lst vs)) (gp : G p = none) (h0 : wd.H0 p = none) (op : ∀ w, O p = some w → ∃ k, w = some k ∧ ρ.length ≤ k) (hd : DpAll M G vs xs) :
    RW M wd (updO O p (some (some i))) G (σ.set i (some (.ref p))) H (ρ.set i (some (.lst xs))) π := by
  have k1 : ∀ b w, O b = some w → (∀ k, w = some k → k < ρ.length) → updO O p (some (some i)) b = some w := fun b w h n => by
    rw [updO_ne (fun z => ?_)]
    · exact h
    · subst z
      obtain ⟨k, e1, e2⟩ := op w h
      have := n k e1
      omega
  refine ⟨R.g0, R.sub, R.new, R.nt, R.keep, R.there, R.jj, fun b w h => ?_, ?_, ?_, fun j sv e => ?_⟩
  · by_cases z : b = p
    · subst z
      rw [updO_same] at h
      cases h
      exact ⟨gp, ⟨_, hp, fun f => f⟩, h0⟩
    · rw [updO_ne z] at h
      exact R.own b w h
  · have := R.root
    cases π with
    | no => exact this
    | lst xs =>
      obtain ⟨a, vs, h1, h2, h3, h4⟩ := this
      exact ⟨a, vs, h1, k1 _ _ h2 (fun k z => by cases z), h3, h4⟩
  · rw [List.length_set, List.length_set]; exact R.len
  · by_cases ij : i = j
    · subst ij
      have hi : i < ρ.length := by
        have := (List.getElem?_eq_some_iff.mp e).1
        rwa [List.length_set] at this
      cases get_set_eq e
      exact ⟨p, vs, List.getElem?_set_self (by rw [R.len]; exact hi), updO_same, hp, hd⟩
    · rw [List.getElem?_set_ne ij] at e
      have hj := (List.getElem?_eq_some_iff.mp e).1
      exact ((R.slot j sv e).mono (Same.refl _) fun b o h1 h2 => ⟨h1, k1 _ _ h2 (fun k z => by cases z; exact hj)⟩).set ij
/-- the own list of a slot becomes a plain value -/
theorem RW.freeze (R : RW M wd O G σ H ρ π) {i : Nat} {a : Addr} {xs : List D} {vs : List V} (hρ : ρ[i]? = some (some (.lst xs))) (hσ : σ[i]? = some (some (.ref a))) (op : O a = some (some i)) (hp : H a = some (.lst vs)) (hd : DpAll M G vs xs) :
    RW M wd (updO O a none) (upd G a (.lst vs)) σ H (ρ.set i (some (.dat (.lst xs)))) π ∧ Same G (upd G a (.lst vs)) := by
  obtain ⟨gp, _, h0⟩ := R.own a _ op
  have h0 : wd.H0 a = none := h0
  have s := same_upd (o := .lst vs) gp
  have k1 : ∀ b w, O b = some w → w ≠ some i → updO O a none b = some w := fun b w h n => by rw [updO_ne (fun z => by rw [z, op] at h; cases h; exact n rfl)]; exact h
  refine ⟨⟨R.g0.trans s, fun b o h => ?_, fun b o h => ?_, fun b ps h => ?_, R.keep, R.there, R.jj, fun b w h => ?_, ?_, by rw [List.length_set]; exact R.len, fun j sv e => ?_⟩, s⟩
  · by_cases z : b = a
    · subst z; rw [upd_same] at h; cases h; exact hp
    · rw [upd_ne z] at h; exact R.sub b o h
  · by_cases z : b = a
    · subst z; exact .inr h0
    · rw [upd_ne z] at h; exact R.new b o h
  · by_cases z : b = a
    · subst z; rw [upd_same] at h; cases h
    · rw [upd_ne z] at h; exact R.nt b ps h
  · by_cases z : b = a
    · subst z; rw [updO_same] at h; cases h
    · rw [updO_ne z] at h
      obtain ⟨a1, a2, a3⟩ := R.own b w h
      exact ⟨by rw [upd_ne z]; exact a1, a2, a3⟩
  · have := R.root
    cases π with
    | no => exact this
    | lst xs =>
      obtain ⟨a, vs, h1, h2, h3, h4⟩ := this
      exact ⟨a, vs, h1, k1 _ _ h2 (fun z => by cases z), h3, h4.mono s⟩
  · by_cases ij : i = j
    · subst ij
      cases get_set_eq e
      exact ⟨_, hσ, .lst upd_same (hd.mono s)⟩
    · rw [List.getElem?_set_ne ij] at e
      exact (R.slot j sv e).mono s fun b o h1 h2 => ⟨h1, k1 _ _ h2 (fun z => by cases z; exact ij rfl)⟩
/-- the own list of a slot is handed out -/
theorem RW.handOut (R : RW M wd O G σ H ρ π) {i : Nat} {a : Addr} {xs : List D} {vs : List V} (hρ : ρ[i]? = some (some (.lst xs))) (hσ : σ[i]? = some (some (.ref a))) (op : O a = some (some i)) (hp : H a = some (.lst vs)) (hd : DpAll M G vs xs) :
    RW M wd (updO O a none) G (σ.set i none) H (ρ.set i none) π ∧ G a = none ∧ wd.H0 a = none := by
  obtain ⟨gp, _, h0⟩ := R.own a _ op
  have h0 : wd.H0 a = none := h0
  have k1 : ∀ b w, O b = some w → w ≠ some i → updO O a none b = some w := fun b w h n => by rw [updO_ne (fun z => by rw [z, op] at h; cases h; exact n rfl)]; exact h
  refine ⟨⟨R.g0, R.sub, R.new, R.nt, R.keep, R.there, R.jj, fun b w h => ?_, ?_, by rw [List.length_set, List.length_set]; exact R.len, fun j sv e => ?_⟩, gp, h0⟩
  · by_cases z : b = a
    · subst z; rw [updO_same] at h; cases h
    · rw [updO_ne z] at h
      exact R.own b w h
  · have := R.root
    cases π with
    | no => exact this
    | lst xs =>
      obtain ⟨a, vs, h1, h2, h3, h4⟩ := this
      exact ⟨a, vs, h1, k1 _ _ h2 (fun z => by cases z), h3, h4⟩
  · by_cases ij : i = j
    · subst ij
      cases get_set_eq e
    · rw [List.getElem?_set_ne ij] at e
      exact ((R.slot j sv e).mono (Same.refl _) fun b o h1 h2 => ⟨h1, k1 _ _ h2 (fun z => by cases z; exact ij rfl)⟩).set ij
end
/-! ### statements -/
inductive SO where
  | nx (ρ : Ev) (π : Rt)
  | ret (v : RV) (ρ : Ev) (π : Rt)
  | brk (ρ : Ev) (π : Rt)
  | ct (ρ : Ev) (π : Rt)
  | exc (e : Exn) (ρ : Ev) (π : Rt)
  | bad
abbrev SM := Ev → Rt → SO
section
variable (X : Cx) (wd : Wd) (W : WS)
def PostS (G : Hp) (Dn : Ends) : SO → Prop
  | .nx ρ' π' => ∀ σ' O' G' H', RW (md X) wd O' G' σ' H' ρ' π' → Same G G' → Dn.nx σ' H'
  | .ret rv ρ' π' => ∀ v σ' O' G' H', RW (md X) wd O' G' σ' H' ρ' π' → Same G G' → rRV X wd O' G' H' v rv → Dn.rt v H'
  | .brk ρ' π' => ∀ σ' O' G' H', RW (md X) wd O' G' σ' H' ρ' π' → Same G G' → Dn.bk σ' H'
  | .ct ρ' π' => ∀ σ' O' G' H', RW (md X) wd O' G' σ' H' ρ' π' → Same G G' → Dn.ct σ' H'
  | .exc e ρ' π' => ∀ c dx σ' O' G' H', RW (md X) wd O' G' σ' H' ρ' π' → Same G G' → ExRep (md X) G' c dx e → W σ' c dx H'
  | .bad => False
def tS (s : SM) : TS := fun Dn σ H => ∃ O G ρ π, RW (md X) wd O G σ H ρ π ∧ PostS X wd W G Dn (s ρ π)
structure DS (st : Stmt) (s : SM) : Prop where
  ps : PS X st (tS X wd W s)
structure DSs (st : List Stmt) (s : SM) : Prop where
  ps : PSs X st (tS X wd W s)
end
section
variable {X : Cx} {wd : Wd} {W : WS} {O : Own} {G G1 : Hp} {σ : L2.St} {H : Hp} {ρ : Ev} {π : Rt} {Dn : Ends}
theorem ps_imp {st : Stmt} {t t' : TS} (h : PS X st t) (k : ∀ D σ H, t' D σ H → t D σ H) : PS X st t' := ⟨fun pins s σ H D I q => h.run pins s σ H D I (k _ _ _ q)⟩
theorem pss_imp {st : List Stmt} {t t' : TS} (h : PSs X st t) (k : ∀ D σ H, t' D σ H → t D σ H) : PSs X st t' := ⟨fun pins s σ H D I q => h.run pins s σ H D I (k _ _ _ q)⟩
theorem PostS.shift {o : SO} (h : PostS X wd W G Dn o) (S : Same G G1) : PostS X wd W G1 Dn o := by
  cases o with
  | nx ρ π => exact fun σ' O' G' H' R S' => h σ' O' G' H' R (S.trans S')
  | ret rv ρ π => exact fun v σ' O' G' H' R S' q => h v σ' O' G' H' R (S.trans S') q
  | brk ρ π => exact fun σ' O' G' H' R S' => h σ' O' G' H' R (S.trans S')
  | ct ρ π => exact fun σ' O' G' H' R S' => h σ' O' G' H' R (S.trans S')
  | exc e ρ π => exact fun c dx σ' O' G' H' R S' q => h c dx σ' O' G' H' R (S.trans S') q
  | bad => exact h
/-- an expression, then the rest of the statement -/
def SO.of {α : Type} (ρ : Ev) (o : Out α) (k : α → Rt → SO) : SO := match o with
  | .ok a π => k a π
  | .exc e π => .exc e ρ π
  | .bad => .bad
theorem PostS.expr {α β : Type} {rep : Own → Hp → Hp → β → α → Prop} {o : Out α} {k : α → Rt → SO} (h : PostS X wd W G Dn (SO.of ρ o k)) :
    Post X wd W rep O G σ H ρ (fun b H' => ∃ O' G' π' a, RW (md X) wd O' G' σ H' ρ π' ∧ Step O G H O' G' H' ∧ rep O' G' H' b a ∧ PostS X wd W G' Dn (k a π')) o := by
  cases o with
  | ok a π => exact fun b O' G' H' R S q => ⟨O', G', π, a, R, S, q, PostS.shift h S.sg⟩
  | exc e π => exact fun c dx O' G' H' R S q => h c dx σ O' G' H' R S.sg q
  | bad => exact h
theorem PostS.nx {ρ' : Ev} {π' : Rt} {σ' : L2.St} {O' : Own} {G' H' : Hp} (h : PostS X wd W G Dn (.nx ρ' π')) (R : RW (md X) wd O' G' σ' H' ρ' π') (S : Same G G') : Dn.nx σ' H' := h _ _ _ _ R S
def sNop : SM := fun ρ π => .nx ρ π
def sSeq (s u : SM) : SM := fun ρ π => match s ρ π with
  | .nx ρ' π' => u ρ' π'
  | o => o
theorem dss_nil : DSs X wd W [] sNop := ⟨pss_imp pss_nil fun D σ H q => by
  obtain ⟨O, G, ρ, π, R, p⟩ := q
  exact p _ _ _ _ R (Same.refl _)⟩
theorem dss_cons {st : Stmt} {rest : List Stmt} {s u : SM} (h1 : DS X wd W st s) (h2 : DSs X wd W rest u) : DSs X wd W (st :: rest) (sSeq s u) := ⟨pss_imp (pss_cons h1.ps h2.ps) fun D σ H q => by
  obtain ⟨O, G, ρ, π, R, p⟩ := q
  refine ⟨O, G, ρ, π, R, ?_⟩
  unfold sSeq at p
  cases e : s ρ π with
  | nx ρ' π' => rw [e] at p; exact fun σ' O' G' H' R' S' => ⟨O', G', ρ', π', R', PostS.shift p S'⟩
  | ret rv ρ' π' => rw [e] at p; exact p
  | brk ρ' π' => rw [e] at p; exact p
  | ct ρ' π' => rw [e] at p; exact p
  | exc e2 ρ' π' => rw [e] at p; exact p
  | bad => rw [e] at p; exact p⟩
theorem dss_one {st : Stmt} {s : SM} (h1 : DS X wd W st s) : DSs X wd W [st] s := ⟨pss_one h1.ps⟩
theorem ds_pass {pos : Pos} : DS X wd W (.Pass pos) sNop := ⟨ps_imp ps_pass fun D σ H q => by
  obtain ⟨O, G, ρ, π, R, p⟩ := q
  exact p _ _ _ _ R (Same.refl _)⟩
def sBreak : SM := fun ρ π => .brk ρ π
def sCont : SM := fun ρ π => .ct ρ π
theorem ds_break {pos : Pos} : DS X wd W (.Break pos) sBreak := ⟨ps_imp ps_break fun D σ H q => by
  obtain ⟨O, G, ρ, π, R, p⟩ := q
  exact p _ _ _ _ R (Same.refl _)⟩
theorem ds_continue {pos : Pos} : DS X wd W (.Continue pos) sCont := ⟨ps_imp ps_continue fun D σ H q => by
  obtain ⟨O, G, ρ, π, R, p⟩ := q
  exact p _ _ _ _ R (Same.refl _)⟩
theorem ds_doc {x j pos pos'} : DS X wd W (.Expr (.Constant (.str x) j pos) pos') sNop := ⟨ps_imp ps_doc fun D σ H q => by
  obtain ⟨O, G, ρ, π, R, p⟩ := q
  exact p _ _ _ _ R (Same.refl _)⟩
variable {e : Expr} {w : Ev → EM D} {pos : Pos}
def sExpr (w : Ev → EM D) : SM := fun ρ π => SO.of ρ (w ρ π) fun _ π' => .nx ρ π'
theorem ds_expr (h : DE X wd W e w) (hs : swapsWith e none pos.line X.env = pure false := by rfl) : DS X wd W (.Expr e pos) (sExpr w) := ⟨ps_imp (ps_expr h.pe hs) fun D σ H q => by
  obtain ⟨O, G, ρ, π, R, p⟩ := q
  refine ⟨O, G, ρ, π, R, Post.imp (PostS.expr p) fun v H' z => ?_⟩
  obtain ⟨O', G', π', a, R', S', r', p'⟩ := z
  exact p'.nx R' (Same.refl _)⟩
def sRet (w : Ev → EM D) : SM := fun ρ π => SO.of ρ (w ρ π) fun d π' => .ret (.dat d) ρ π'
theorem ds_ret (h : DE X wd W e w) : DS X wd W (.Return (some e) pos) (sRet w) := ⟨ps_imp (ps_ret h.pe) fun D σ H q => by
  obtain ⟨O, G, ρ, π, R, p⟩ := q
  refine ⟨O, G, ρ, π, R, Post.imp (PostS.expr p) fun v H' z => ?_⟩
  obtain ⟨O', G', π', a, R', S', r', p'⟩ := z
  exact p' v σ O' G' H' R' (Same.refl _) r'⟩
def sRetF (w : Ev → EM (List D)) : SM := fun ρ π => SO.of ρ (w ρ π) fun d π' => .ret (.lst d) ρ π'
theorem ds_retF {w : Ev → EM (List D)} (h : DF X wd W e w) : DS X wd W (.Return (some e) pos) (sRetF w) := ⟨ps_imp (ps_ret h.pe) fun D σ H q => by
  obtain ⟨O, G, ρ, π, R, p⟩ := q
  refine ⟨O, G, ρ, π, R, Post.imp (PostS.expr p) fun v H' z => ?_⟩
  obtain ⟨O', G', π', a, R', S', r', p'⟩ := z
  exact p' v σ O' G' H' R' (Same.refl _) r'⟩
def sRetR (w : Ev → EM RV) : SM := fun ρ π => SO.of ρ (w ρ π) fun d π' => .ret d ρ π'
theorem ds_retR {w : Ev → EM RV} (h : DR X wd W e w) : DS X wd W (.Return (some e) pos) (sRetR w) := ⟨ps_imp (ps_ret h.pe) fun D σ H q => by
  obtain ⟨O, G, ρ, π, R, p⟩ := q
  refine ⟨O, G, ρ, π, R, Post.imp (PostS.expr p) fun v H' z => ?_⟩
  obtain ⟨O', G', π', a, R', S', r', p'⟩ := z
  exact p' v σ O' G' H' R' (Same.refl _) r'⟩
def sRetN : SM := fun ρ π => .ret (.dat .non) ρ π
theorem ds_retN : DS X wd W (.Return none pos) sRetN := ⟨ps_imp ps_retN fun D σ H q => by
  obtain ⟨O, G, ρ, π, R, p⟩ := q
  exact p .non σ O G H R (Same.refl _) .non⟩
/-- return x, an own list -/
def sRetO (i : Nat) : SM := fun ρ π => match ρ[i]? with
  | some (some (.lst xs)) => .ret (.lst xs) (ρ.set i none) π
  | some (some (.dat d)) => .ret (.dat d) ρ π
  | _ => .bad
theorem ds_retO (i : Nat) {x : Str} {p : Pos} (hN : X.N[i]? = some x := by rfl) (hv : Vis X.env.scope x := by first | exact Or.inl rfl | exact Or.inr (Or.inl rfl) | exact Or.inr (Or.inr rfl)) (hd : (x == ("__debug__" : Str)) = false := by decide)
    (hcd : (x == ("__classdict__" : Str)) = false := by decide) : DS X wd W (.Return (some (.Name x p)) pos) (sRetO i) := ⟨ps_imp (ps_ret (pe_var hN hv hd hcd)) fun D σ H q => by
  obtain ⟨O, G, ρ, π, R, p⟩ := q
  unfold sRetO at p
  split at p
  · next xs hρ =>
    obtain ⟨a, vs, h1, h2, h3, h4⟩ := R.slot i _ hρ
    obtain ⟨R', g, h0⟩ := R.handOut hρ h1 h2 h3 h4
    exact ⟨_, h1, p _ _ _ _ _ R' (Same.refl _) ⟨a, vs, rfl, h3, g, updO_same, h0, h4⟩⟩
  · next d hρ =>
    obtain ⟨v, h1, h2⟩ := R.slot i _ hρ
    exact ⟨_, h1, p _ _ _ _ _ R (Same.refl _) h2⟩
  · exact p.elim⟩
/-! ### assignments -/
def sSet (i : Nat) (w : Ev → EM D) : SM := fun ρ π => SO.of ρ (w ρ π) fun d π' => .nx (ρ.set i (some (.dat d))) π'
theorem ds_set (i : Nat) {x : Str} {p : Pos} (hN : X.N.Nodup) (he : DE X wd W e w) (hi : X.N[i]? = some x := by rfl) (hx : Loc X.env.scope x := by first | exact Or.inl rfl | exact Or.inr rfl) (hs : swapsWith e (some (.Name x p)) pos.line X.env = pure false := by rfl) (hf : X.fn x = true ∨ X.env.scope.names.lookup x = some .local := by first | exact .inl rfl | exact .inr rfl) :
    DS X wd W (.Assign [.Name x p] e pos) (sSet i w) := ⟨ps_imp (ps_set hN hi hx he.pe hs hf) fun D σ H q => by
  obtain ⟨O, G, ρ, π, R, p⟩ := q
  refine ⟨O, G, ρ, π, R, Post.imp (PostS.expr p) fun v H' z => ?_⟩
  obtain ⟨O', G', π', a, R', S', r', p'⟩ := z
  exact p'.nx (R'.setDat r') (Same.refl _)⟩
def sSetF (i : Nat) (w : Ev → EM (List D)) : SM := fun ρ π => SO.of ρ (w ρ π) fun d π' => .nx (ρ.set i (some (.lst d))) π'
theorem ds_setF (i : Nat) {w : Ev → EM (List D)} {x : Str} {p : Pos} (hN : X.N.Nodup) (he : DF X wd W e w) (hi : X.N[i]? = some x := by rfl) (hx : Loc X.env.scope x := by first | exact Or.inl rfl | exact Or.inr rfl) (hs : swapsWith e (some (.Name x p)) pos.line X.env = pure false := by rfl) (hf : X.fn x = true ∨ X.env.scope.names.lookup x = some .local := by first | exact .inl rfl | exact .inr rfl) :
    DS X wd W (.Assign [.Name x p] e pos) (sSetF i w) := ⟨ps_imp (ps_set hN hi hx he.pe hs hf) fun D σ H q => by
  obtain ⟨O, G, ρ, π, R, p⟩ := q
  refine ⟨O, G, ρ, π, R, Post.imp (PostS.expr p) fun v H' z => ?_⟩
  obtain ⟨O', G', π', a, R', S', ⟨b, vs, rfl, h1, h2, h3, h4, h5⟩, p'⟩ := z
  exact p'.nx (R'.setOwn h1 h2 h4 (fun w z => by rw [h3] at z; cases z) h5) (Same.refl _)⟩
def sSetR (i : Nat) (w : Ev → EM RV) : SM := fun ρ π => SO.of ρ (w ρ π) fun d π' => match d with
  | .dat d => .nx (ρ.set i (some (.dat d))) π'
  | .lst d => .nx (ρ.set i (some (.lst d))) π'
theorem ds_setR (i : Nat) {w : Ev → EM RV} {x : Str} {p : Pos} (hN : X.N.Nodup) (he : DR X wd W e w) (hi : X.N[i]? = some x := by rfl) (hx : Loc X.env.scope x := by first | exact Or.inl rfl | exact Or.inr rfl) (hs : swapsWith e (some (.Name x p)) pos.line X.env = pure false := by rfl) (hf : X.fn x = true ∨ X.env.scope.names.lookup x = some .local := by first | exact .inl rfl | exact .inr rfl) :
    DS X wd W (.Assign [.Name x p] e pos) (sSetR i w) := ⟨ps_imp (ps_set hN hi hx he.pe hs hf) fun D σ H q => by
  obtain ⟨O, G, ρ, π, R, p⟩ := q
  refine ⟨O, G, ρ, π, R, Post.imp (PostS.expr p) fun v H' z => ?_⟩
  obtain ⟨O', G', π', a, R', S', r', p'⟩ := z
  cases a with
  | dat d => exact PostS.nx (ρ' := ρ.set i (some (.dat d))) p' (R'.setDat r') (Same.refl _)
  | lst d =>
    obtain ⟨b, vs, rfl, h1, h2, h3, h4, h5⟩ := r'
    exact PostS.nx (ρ' := ρ.set i (some (.lst d))) p' (R'.setOwn h1 h2 h4 (fun w z => by rw [h3] at z; cases z) h5) (Same.refl _)⟩
/-- a call's value, a new list made plain -/
def eVal (w : Ev → EM RV) : Ev → EM D := fun ρ => do
  let v ← w ρ
  match v with
  | .dat d => pure d
  | .lst xs => pure (.lst xs)
def eNew (w : Ev → EM RV) : Ev → EM (List D) := fun ρ => do
  let v ← w ρ
  match v with
  | .dat _ => EM.bad
  | .lst xs => pure xs
theorem DR.de {w : Ev → EM RV} (h : DR X wd W e w) : DE X wd W e (eVal w) := ⟨pe_imp h.pe fun σ H Q q => by
  obtain ⟨O, G, ρ, π, R, p⟩ := q
  refine ⟨O, G, ρ, π, R, Post.imp (Post.chain (o := w ρ π) p) fun v H' z => ?_⟩
  obtain ⟨O', G', π', rv, R', S, r, p'⟩ := z
  cases rv with
  | dat d => exact Post.give (d := d) p' R' r
  | lst xs =>
    obtain ⟨a, vs, rfl, h1, h2, h3, h4, h5⟩ := r
    obtain ⟨R2, S2, e⟩ := R'.know h1 h2 h3 h4 (fun ps z => by cases z)
    exact p' _ _ _ _ R2 S2 (.lst e (h5.mono S2.sg))⟩
theorem DR.df {w : Ev → EM RV} (h : DR X wd W e w) : DF X wd W e (eNew w) := ⟨pe_imp h.pe fun σ H Q q => by
  obtain ⟨O, G, ρ, π, R, p⟩ := q
  refine ⟨O, G, ρ, π, R, Post.imp (Post.chain (o := w ρ π) p) fun v H' z => ?_⟩
  obtain ⟨O', G', π', rv, R', S, r, p'⟩ := z
  cases rv with
  | dat d => exact p'.elim
  | lst xs => exact p' _ _ _ _ R' (Step.refl _ _ _) r⟩
/-- a target -/
def sAsg (g : GM) (w : Ev → EM D) : SM := fun ρ π => SO.of ρ (w ρ π) fun d π' => match g d ρ with
  | some ρ' => .nx ρ' π'
  | none => .bad
theorem ds_asg {tg : Expr} {ts : List Nat} {g : GM} (he : DE X wd W e w) (hg : DG X wd tg ts g) (hs : swapsWithSole [tg] e pos.line X.env = pure false := by rfl) (hw : swappedStores [tg] e X.env = pure none := by rfl)
    (h1 : (assignEach [tg] X.env).map (·.2) = [assign tg X.env] := by rfl) : DS X wd W (.Assign [tg] e pos) (sAsg g w) := ⟨ps_imp (ps_asg he.pe hg.pg hs hw h1) fun D σ H q => by
  obtain ⟨O, G, ρ, π, R, p⟩ := q
  refine ⟨O, G, ρ, π, R, Post.imp (PostS.expr p) fun v H' z => ?_⟩
  obtain ⟨O', G', π', a, R', S', r', p'⟩ := z
  cases eg : g a ρ with
  | none => rw [eg] at p'; exact p'.elim
  | some ρ' =>
    rw [eg] at p'
    exact ⟨O', G', ρ, π', a, ρ', R', r', eg, fun σ' R2 _ _ => p'.nx R2 (Same.refl _)⟩⟩
/-- name += int -/
def ipD (f : Int → Int → Int) : D → D → Option D
  | .int i, .int j => some (.int (f i j))
  | _, _ => none
def sAug (i : Nat) (f : Int → Int → Int) (w : Ev → EM D) : SM := fun ρ π => match ρ[i]? with
  | some (some (.dat x)) => SO.of ρ (w ρ π) fun d π' => (match ipD f x d with
    | some z => .nx (ρ.set i (some (.dat z))) π'
    | none => .bad)
  | _ => .bad
theorem ds_aug (i : Nat) {op : Operator} {f : Int → Int → Int} {x : Str} {p : Pos} (hN : X.N.Nodup) (he : DE X wd W e w) (ho : PIp X op (ipI f)) (hi : X.N[i]? = some x := by rfl) (hx : Loc X.env.scope x := by first | exact Or.inl rfl | exact Or.inr rfl) (hf : X.fn x = true ∨ X.env.scope.names.lookup x = some .local := by first | exact .inl rfl | exact .inr rfl) :
    DS X wd W (.AugAssign (.Name x p) op e pos) (sAug i f w) := ⟨ps_imp (ps_aug hN hi hx he.pe ho hf) fun D σ H q => by
  obtain ⟨O, G, ρ, π, R, p⟩ := q
  unfold sAug at p
  split at p
  · next x hρ =>
    obtain ⟨v, h1, h2⟩ := R.slot i _ hρ
    refine ⟨v, h1, O, G, ρ, π, R, Post.imp (PostS.expr p) fun y H' z => ?_⟩
    obtain ⟨O', G', π', d, R', S', r', p'⟩ := z
    have p2 : PostS X wd W G' D (match ipD f x d with
      | some z => .nx (ρ.set i (some (.dat z))) π'
      | none => .bad) := p'
    clear p'
    split at p2
    · next z ez =>
      unfold ipD at ez
      split at ez
      · next a b =>
        cases ez
        exact ⟨a, b, h2.i_int, Dp.i_int r', p2.nx (R'.setDat (.int _)) (Same.refl _)⟩
      · cases ez
    · exact p2.elim
  · exact p.elim⟩
/-! ### if, while, for -/
def sIf (t : Ev → EM Bool) (s u : SM) : SM := fun ρ π => SO.of ρ (t ρ π) fun k π' => if k = true then s ρ π' else u ρ π'
theorem ds_if {c : Expr} {a b : List Stmt} {t : Ev → EM Bool} {s u : SM} (hc : DT X wd W c t) (ha : DSs X wd W a s) (hb : DSs X wd W b u) : DS X wd W (.If c a b pos) (sIf t s u) := ⟨ps_imp (ps_if hc.pt ha.ps hb.ps) fun D σ H q => by
  obtain ⟨O, G, ρ, π, R, p⟩ := q
  refine ⟨O, G, ρ, π, R, Post.imp (PostS.expr (rep := rT) p) fun v H' z => ?_⟩
  obtain ⟨O', G', π', a, R', S', rfl, p'⟩ := z
  cases v with
  | true => exact ⟨O', G', ρ, π', R', p'⟩
  | false => exact ⟨O', G', ρ, π', R', p'⟩⟩
def whileGo (t : Ev → EM Bool) (s : SM) : Nat → SM
  | 0 => fun _ _ => .bad
  | n + 1 => fun ρ π => SO.of ρ (t ρ π) fun k π' => if k = true then (match s ρ π' with
    | .nx ρ' π2 => whileGo t s n ρ' π2
    | .ct ρ' π2 => whileGo t s n ρ' π2
    | .brk ρ' π2 => .nx ρ' π2
    | o => o) else .nx ρ π'
/-- while, m: how many turns are enough -/
def sWhile (m : Ev → Nat) (t : Ev → EM Bool) (s : SM) : SM := fun ρ π => whileGo t s (m ρ) ρ π
theorem ds_while {c : Expr} {body : List Stmt} {t : Ev → EM Bool} {s : SM} (m : Ev → Nat) (hp : PassesOwn (model X.prog X.w) X.A X.env X.xe) (hc : DT X wd W c t) (hb : DSs X wd W body s) : DS X wd W (.While c body [] pos) (sWhile m t s) := ⟨ps_imp (ps_while hp hc.pt hb.ps) fun D σ H q => by
  obtain ⟨O, G, ρ, π, R, p⟩ := q
  refine ⟨fun n σ H => ∃ O G ρ π, RW (md X) wd O G σ H ρ π ∧ PostS X wd W G D (whileGo t s n ρ π), ⟨m ρ, O, G, ρ, π, R, p⟩, fun n σ H h => ?_⟩
  obtain ⟨O, G, ρ, π, R, p⟩ := h
  cases n with
  | zero => exact p.elim
  | succ n =>
    refine ⟨O, G, ρ, π, R, Post.imp (PostS.expr (rep := rT) p) fun v H' z => ?_⟩
    obtain ⟨O', G', π', a, R', S', rfl, p'⟩ := z
    cases v with
    | false => exact PostS.nx (ρ' := ρ) p' R' (Same.refl _)
    | true =>
      have p' : PostS X wd W G' D (match s ρ π' with
        | .nx ρ' π2 => whileGo t s n ρ' π2
        | .ct ρ' π2 => whileGo t s n ρ' π2
        | .brk ρ' π2 => .nx ρ' π2
        | o => o) := p'
      show ∃ N : L2.St → Hp → Prop, _
      refine ⟨fun σ' H' => ∃ O G ρ π, RW (md X) wd O G σ' H' ρ π ∧ PostS X wd W G D (whileGo t s n ρ π), fun σ' H' h => ⟨n, Nat.lt_succ_self _, h⟩, O', G', ρ, π', R', ?_⟩
      cases es : s ρ π' with
      | nx ρ' π2 => rw [es] at p'; exact fun σ2 O2 G2 H2 R2 S2 => ⟨O2, G2, ρ', π2, R2, PostS.shift p' S2⟩
      | ct ρ' π2 => rw [es] at p'; exact fun σ2 O2 G2 H2 R2 S2 => ⟨O2, G2, ρ', π2, R2, PostS.shift p' S2⟩
      | brk ρ' π2 => rw [es] at p'; exact p'
      | ret rv ρ' π2 => rw [es] at p'; exact p'
      | exc e2 ρ' π2 => rw [es] at p'; exact p'
      | bad => rw [es] at p'; exact p'⟩
def forGo (g : GM) (s : SM) : List D → SM
  | [] => sNop
  | d :: ds => fun ρ π => match g d ρ with
    | some ρ1 => (match s ρ1 π with
      | .nx ρ' π2 => forGo g s ds ρ' π2
      | .ct ρ' π2 => forGo g s ds ρ' π2
      | .brk ρ' π2 => .nx ρ' π2
      | o => o)
    | none => .bad
def sFor (w : Ev → EM (List D)) (g : GM) (s : SM) : SM := fun ρ π => SO.of ρ (w ρ π) fun ds π' => forGo g s ds ρ π'
theorem ds_for {tg iter : Expr} {body : List Stmt} {w : Ev → EM (List D)} {ts : List Nat} {g : GM} {s : SM} (hp : PassesOwn (model X.prog X.w) X.A X.env X.xe) (hc : X.calm = true) (hi : DIS X wd W tg iter w) (hg : DG X wd tg ts g) (hb : DSs X wd W body s) (hs : ∀ x, foldedSetIterable iter X.env x = pure x := by intro _; rfl) :
    DS X wd W (.For tg iter body [] pos) (sFor w g s) := ⟨ps_imp (ps_for hp hc hi.pi hg.pg hb.ps hs) fun D σ H q => by
  obtain ⟨O, G, ρ, π, R, p⟩ := q
  refine ⟨O, G, ρ, π, R, Post.imp (PostS.expr p) fun J H1 z => ?_⟩
  obtain ⟨O1, G1, π1, ds, R1, S1, hit, p1⟩ := z
  refine ⟨fun i m σ H => ∃ O G ρ π, RW (md X) wd O G σ H ρ π ∧ Same G1 G ∧ i + m = ds.length ∧ PostS X wd W G D (forGo g s (ds.drop i) ρ π), ⟨ds.length, O1, G1, ρ, π1, R1, Same.refl _, by omega, p1⟩, fun i m σ2 H2 h => ?_⟩
  obtain ⟨O2, G2, ρ2, π2, R2, S2, him, p2⟩ := h
  have it := hit i O2 G2 σ2 H2 ρ2 π2 S2 R2
  by_cases hlt : i < ds.length
  case neg =>
    rw [List.drop_eq_nil_of_le (by omega)] at p2
    exact .inl ⟨it.2 (by omega), PostS.nx (ρ' := ρ2) p2 R2 (Same.refl _)⟩
  case pos =>
    obtain ⟨go, yl⟩ := it.1 _ (List.getElem?_eq_getElem hlt)
    rw [List.drop_eq_getElem_cons hlt] at p2
    have p2 : PostS X wd W G2 D (match g ds[i] ρ2 with
      | some ρ1 => (match s ρ1 π2 with
        | .nx ρ' π2 => forGo g s (ds.drop (i + 1)) ρ' π2
        | .ct ρ' π2 => forGo g s (ds.drop (i + 1)) ρ' π2
        | .brk ρ' π2 => .nx ρ' π2
        | o => o)
      | none => .bad) := p2
    refine .inr ⟨go, fun σ' H' => ∃ m', m' < m ∧ ∃ O G ρ π, RW (md X) wd O G σ' H' ρ π ∧ Same G1 G ∧ i + 1 + m' = ds.length ∧ PostS X wd W G D (forGo g s (ds.drop (i + 1)) ρ π), fun σ' H' h => h, fun x H3 hy => ?_⟩
    obtain ⟨G3, R3, S3, x3⟩ := yl x H3 hy
    cases eg : g ds[i] ρ2 with
    | none => rw [eg] at p2; exact p2.elim
    | some ρ1 =>
      rw [eg] at p2
      dsimp only at p2
      refine ⟨O2, G3, ρ2, π2, ds[i], ρ1, R3, x3, eg, fun σ4 R4 _ _ => ⟨O2, G3, ρ1, π2, R4, ?_⟩⟩
      cases es : s ρ1 π2 with
      | nx ρ' π5 => rw [es] at p2; exact fun σ5 O5 G5 H5 R5 S5 => ⟨m - 1, by omega, O5, G5, ρ', π5, R5, S2.trans (S3.sg.trans S5), by omega, PostS.shift p2 (S3.sg.trans S5)⟩
      | ct ρ' π5 => rw [es] at p2; exact fun σ5 O5 G5 H5 R5 S5 => ⟨m - 1, by omega, O5, G5, ρ', π5, R5, S2.trans (S3.sg.trans S5), by omega, PostS.shift p2 (S3.sg.trans S5)⟩
      | brk ρ' π5 => rw [es] at p2; exact PostS.shift (o := .nx ρ' π5) p2 S3.sg
      | ret rv ρ' π5 => rw [es] at p2; exact PostS.shift (o := .ret rv ρ' π5) p2 S3.sg
      | exc e2 ρ' π5 => rw [es] at p2; exact PostS.shift (o := .exc e2 ρ' π5) p2 S3.sg
      | bad => rw [es] at p2; exact p2⟩
end
end DL

/-! Lists that change, defs, over the data layer. -/
namespace DL
open PySem PySem.Spec PyProof.Rows L2
section
variable {X : Cx} {wd : Wd} {W : WS} {O : Own} {G G1 : Hp} {σ : L2.St} {H : Hp} {ρ : Ev} {π : Rt} {Dn : Ends}
variable {e : Expr} {w : Ev → EM D} {pos : Pos}
/-- what an own list's statement does: the slot's list and the argument's value give the new list -/
def sMut (i : Nat) (w : Ev → EM D) (f : List D → D → Option (List D)) : SM := fun ρ π => match ρ[i]? with
  | some (some (.lst xs)) => SO.of ρ (w ρ π) fun d π' => (match f xs d with
    | some ys => .nx (ρ.set i (some (.lst ys))) π'
    | none => .bad)
  | _ => .bad
def apF (xs : List D) (d : D) : Option (List D) := if xs.length < most then some (xs ++ [d]) else none
def exF (xs : List D) (d : D) : Option (List D) := match d with
  | .lst ys => if xs.length + ys.length ≤ most then some (xs ++ ys) else none
  | _ => none
theorem most_lt {n : Nat} (h : n < most) : n < sizeLine := Nat.lt_trans h (by decide)
theorem most_le {n : Nat} (h : n ≤ most) : n ≤ sizeLine := Nat.le_trans h (by decide)
theorem ds_append (i : Nat) {x : Str} {p apos cpos : Pos} (he : DE X wd W e w) (hN : X.N[i]? = some x := by rfl) (hv : Vis X.env.scope x := by first | exact Or.inl rfl | exact Or.inr (Or.inl rfl) | exact Or.inr (Or.inr rfl)) (hd : (x == ("__debug__" : Str)) = false := by decide)
    (hcd : (x == ("__classdict__" : Str)) = false := by decide) (hbase : attributeBase (.Name x p) "append" X.env (eval (.Name x p) X.env) = eval (.Name x p) X.env := by rfl)
    (hfew : ((backTo cpos (starEach (e :: []) X.env)).all (fun x => !x.1) && (backToKw cpos (keywordEach [] X.env)).all (fun x => x.1.isSome) && decide ((e :: []).length + ([] : List Keyword).length + (if ([] : List Keyword).isEmpty then 0 else 1) < 30)) = true := by rfl)
    (hline : (apos.endLine == cpos.line) = true := by rfl) (hs : starEach (e :: []) X.env = (false, eval e X.env) :: starEach [] X.env := by rfl) (hplain : (backTo cpos (starEach [] X.env)).any (·.1) = false := by rfl)
    (hsw : swapsWith (.Call (.Attribute (.Name x p) "append" apos) [e] [] cpos) none pos.line X.env = pure false := by rfl) :
    DS X wd W (.Expr (.Call (.Attribute (.Name x p) "append" apos) [e] [] cpos) pos) (sMut i w apF) := ⟨ps_imp (ps_expr (pe_bm PySem.F.plainAttrs_list PySem.F.slot_list_append PySem.F.type_list_append mt_append (pe_var hN hv hd hcd) (pa_cons he.pe pa_nil hs) hbase hfew hline hs hplain) hsw) fun D σ H q => by
  obtain ⟨O, G, ρ, π, R, p⟩ := q
  unfold sMut at p
  split at p
  · next xs hρ =>
    obtain ⟨a, vs, h1, h2, h3, h4⟩ := R.slot i _ hρ
    refine ⟨_, h1, .inl ⟨rfl, _, .inl (.inl h3)⟩, O, G, ρ, π, R, Post.imp (PostS.expr p) fun y H' z => ?_⟩
    obtain ⟨O', G', π', d, R', S', r', p'⟩ := z
    have p2 : PostS X wd W G' D (match apF xs d with
      | some ys => .nx (ρ.set i (some (.lst ys))) π'
      | none => .bad) := p'
    clear p'
    unfold apF at p2
    split at p2
    · next ys ey =>
      split at ey
      · next c =>
        cases ey
        have h3' := S'.fr _ _ h3 (by rw [h2]; exact fun z => by cases z) (fun _ z => by cases z)
        have o' := S'.oo _ _ h2
        refine ⟨a, vs, y, rfl, rfl, h3', most_lt (by rw [h4.length]; exact c), p2.nx (R'.write hρ h1 o' h3' ((h4.mono S'.sg).append (.one r'))) (Same.refl _)⟩
      · cases ey
    · exact p2.elim
  · exact p.elim⟩
theorem ds_extend (i : Nat) {x : Str} {p apos cpos : Pos} (he : DB X wd W e w) (hN : X.N[i]? = some x := by rfl) (hv : Vis X.env.scope x := by first | exact Or.inl rfl | exact Or.inr (Or.inl rfl) | exact Or.inr (Or.inr rfl)) (hd : (x == ("__debug__" : Str)) = false := by decide)
    (hcd : (x == ("__classdict__" : Str)) = false := by decide) (hbase : attributeBase (.Name x p) "extend" X.env (eval (.Name x p) X.env) = eval (.Name x p) X.env := by rfl)
    (hfew : ((backTo cpos (starEach (e :: []) X.env)).all (fun x => !x.1) && (backToKw cpos (keywordEach [] X.env)).all (fun x => x.1.isSome) && decide ((e :: []).length + ([] : List Keyword).length + (if ([] : List Keyword).isEmpty then 0 else 1) < 30)) = true := by rfl)
    (hline : (apos.endLine == cpos.line) = true := by rfl) (hs : starEach (e :: []) X.env = (false, eval e X.env) :: starEach [] X.env := by rfl) (hplain : (backTo cpos (starEach [] X.env)).any (·.1) = false := by rfl)
    (hsw : swapsWith (.Call (.Attribute (.Name x p) "extend" apos) [e] [] cpos) none pos.line X.env = pure false := by rfl) :
    DS X wd W (.Expr (.Call (.Attribute (.Name x p) "extend" apos) [e] [] cpos) pos) (sMut i w exF) := ⟨ps_imp (ps_expr (pe_bm PySem.F.plainAttrs_list PySem.F.slot_list_extend PySem.F.type_list_extend mt_extend (pe_var hN hv hd hcd) (pa_cons he.pe pa_nil hs) hbase hfew hline hs hplain) hsw) fun D σ H q => by
  obtain ⟨O, G, ρ, π, R, p⟩ := q
  unfold sMut at p
  split at p
  · next xs hρ =>
    obtain ⟨a, vs, h1, h2, h3, h4⟩ := R.slot i _ hρ
    refine ⟨_, h1, .inl ⟨rfl, _, .inl (.inl h3)⟩, O, G, ρ, π, R, Post.imp (PostS.expr p) fun y H' z => ?_⟩
    obtain ⟨O', G', π', d, R', S', r', p'⟩ := z
    have p2 : PostS X wd W G' D (match exF xs d with
      | some ys => .nx (ρ.set i (some (.lst ys))) π'
      | none => .bad) := p'
    clear p'
    unfold exF at p2
    split at p2
    · next ys ey =>
      split at ey
      · next zs =>
        split at ey
        · next c =>
          cases ey
          have h3' := S'.fr _ _ h3 (by rw [h2]; exact fun z => by cases z) (fun _ z => by cases z)
          have o' := S'.oo _ _ h2
          obtain ⟨b, ws, rfl, q1, q2⟩ := r'.i_lst R'
          refine ⟨a, b, vs, ws, rfl, rfl, h3', q1, most_le (by rw [h4.length, q2.length]; exact c), p2.nx (R'.write hρ h1 o' h3' ((h4.mono S'.sg).append q2)) (Same.refl _)⟩
        · cases ey
      · cases ey
    · exact p2.elim
  · exact p.elim⟩
/-- name = x.pop() -/
def sPop (j i : Nat) (f : D → Option D) : SM := fun ρ π => match ρ[i]? with
  | some (some (.lst xs)) => (match xs[xs.length - 1]?.bind f with
    | some d => .nx ((ρ.set i (some (.lst xs.dropLast))).set j (some (.dat d))) π
    | none => .bad)
  | _ => .bad
theorem ds_pop (j i : Nat) {x y : Str} {p py apos cpos : Pos} (hNd : X.N.Nodup) (hN : X.N[i]? = some x := by rfl) (hNj : X.N[j]? = some y := by rfl) (hv : Vis X.env.scope x := by first | exact Or.inl rfl | exact Or.inr (Or.inl rfl) | exact Or.inr (Or.inr rfl)) (hd : (x == ("__debug__" : Str)) = false := by decide)
    (hcd : (x == ("__classdict__" : Str)) = false := by decide) (hbase : attributeBase (.Name x p) "pop" X.env (eval (.Name x p) X.env) = eval (.Name x p) X.env := by rfl)
    (hline : (apos.endLine == cpos.line) = true := by rfl) (hx : Loc X.env.scope y := by first | exact Or.inl rfl | exact Or.inr rfl) (hs : swapsWith (.Call (.Attribute (.Name x p) "pop" apos) [] [] cpos) (some (.Name y py)) pos.line X.env = pure false := by rfl) (hf : X.fn y = true ∨ X.env.scope.names.lookup y = some .local := by first | exact .inl rfl | exact .inr rfl) :
    DS X wd W (.Assign [.Name y py] (.Call (.Attribute (.Name x p) "pop" apos) [] [] cpos) pos) (sPop j i some) := ⟨ps_imp (ps_set hNd hNj hx (pe_bm0 PySem.F.plainAttrs_list PySem.F.slot_list_pop PySem.F.type_list_pop mt_pop (pe_var hN hv hd hcd) hbase hline) hs hf) fun D σ H q => by
  obtain ⟨O, G, ρ, π, R, p⟩ := q
  unfold sPop at p
  split at p
  · next xs hρ =>
    obtain ⟨a, vs, h1, h2, h3, h4⟩ := R.slot i _ hρ
    split at p
    · next d ed =>
      obtain ⟨d', e1, e2⟩ := Option.bind_eq_some_iff.mp ed
      cases e2
      obtain ⟨v, e3, e4⟩ := h4.get e1
      rw [← h4.length] at e3
      refine ⟨_, h1, .inl ⟨rfl, _, .inl (.inl h3)⟩, a, vs, v, rfl, rfl, h3, e3, ?_⟩
      exact p.nx ((R.write hρ h1 h2 h3 h4.dropLast).setDat e4) (Same.refl _)
    · exact p.elim
  · exact p.elim⟩
/-- name = x.pop() + k -/
theorem ds_popAdd (j i : Nat) {x y : Str} {k : Int} {jk : Nat} {p py pk apos cpos bpos : Pos} (hNd : X.N.Nodup) (hN : X.N[i]? = some x := by rfl) (hNj : X.N[j]? = some y := by rfl) (hv : Vis X.env.scope x := by first | exact Or.inl rfl | exact Or.inr (Or.inl rfl) | exact Or.inr (Or.inr rfl)) (hd : (x == ("__debug__" : Str)) = false := by decide)
    (hcd : (x == ("__classdict__" : Str)) = false := by decide) (hbase : attributeBase (.Name x p) "pop" X.env (eval (.Name x p) X.env) = eval (.Name x p) X.env := by rfl)
    (hline : (apos.endLine == cpos.line) = true := by rfl) (hx : Loc X.env.scope y := by first | exact Or.inl rfl | exact Or.inr rfl) (hs : swapsWith (.BinOp (.Call (.Attribute (.Name x p) "pop" apos) [] [] cpos) .Add (.Constant (.int k) jk pk) bpos) (some (.Name y py)) pos.line X.env = pure false := by rfl) (hf : X.fn y = true ∨ X.env.scope.names.lookup y = some .local := by first | exact .inl rfl | exact .inr rfl) :
    DS X wd W (.Assign [.Name y py] (.BinOp (.Call (.Attribute (.Name x p) "pop" apos) [] [] cpos) .Add (.Constant (.int k) jk pk) bpos) pos) (sPop j i fun d => ipD (· + ·) d (.int k)) := ⟨ps_imp (ps_set hNd hNj hx (pe_op op_add (pe_bm0 PySem.F.plainAttrs_list PySem.F.slot_list_pop PySem.F.type_list_pop mt_pop (pe_var hN hv hd hcd) hbase hline) pe_int) hs hf) fun D σ H q => by
  obtain ⟨O, G, ρ, π, R, p⟩ := q
  unfold sPop at p
  split at p
  · next xs hρ =>
    obtain ⟨a, vs, h1, h2, h3, h4⟩ := R.slot i _ hρ
    split at p
    · next d ed =>
      obtain ⟨d', e1, e2⟩ := Option.bind_eq_some_iff.mp ed
      obtain ⟨v, e3, e4⟩ := h4.get e1
      rw [← h4.length] at e3
      unfold ipD at e2
      split at e2
      · next n m em =>
        cases e2
        refine ⟨_, h1, .inl ⟨rfl, _, .inl (.inl h3)⟩, a, vs, v, rfl, rfl, h3, e3, n, k, e4.i_int, rfl, ?_⟩
        cases em
        exact p.nx ((R.write hρ h1 h2 h3 h4.dropLast).setDat (.int _)) (Same.refl _)
      · cases e2
    · exact p.elim
  · exact p.elim⟩
/-- x[i] = e -/
def setF (xs : List D) (k d : D) : Option (List D) := match k with
  | .int k => (ixN xs.length k).map fun j => xs.set j d
  | _ => none
def sSetIx (i : Nat) (w : Ev → EM D) (wk : Ev → EM D) : SM := fun ρ π => SO.of ρ (w ρ π) fun d π' => (match ρ[i]? with
  | some (some (.lst xs)) => SO.of ρ (wk ρ π') fun k π2 => (match setF xs k d with
    | some ys => .nx (ρ.set i (some (.lst ys))) π2
    | none => .bad)
  | _ => .bad)
theorem ds_setIx (i : Nat) {k : Expr} {wk : Ev → EM D} {x : Str} {p spos : Pos} (he : DE X wd W e w) (hk : DB X wd W k wk) (hN : X.N[i]? = some x := by rfl) (hv : Vis X.env.scope x := by first | exact Or.inl rfl | exact Or.inr (Or.inl rfl) | exact Or.inr (Or.inr rfl)) (hd : (x == ("__debug__" : Str)) = false := by decide)
    (hcd : (x == ("__classdict__" : Str)) = false := by decide) (hs : swapsWithSole [.Subscript (.Name x p) k spos] e pos.line X.env = pure false := by rfl) (hw : swappedStores [.Subscript (.Name x p) k spos] e X.env = pure none := by rfl)
    (h1 : (assignEach [.Subscript (.Name x p) k spos] X.env).map (·.2) = [assign (.Subscript (.Name x p) k spos) X.env] := by rfl)
    (ha : ∀ v, assign (.Subscript (.Name x p) k spos) X.env v = (do
      let ov ← holding [v] (eval (.Name x p) X.env)
      let iv ← holding [v, ov] (eval k X.env)
      standAt spos
      holding [v, ov, iv] (setItem ov iv v)
      release [v, ov, iv] []) := by intro _; rfl) :
    DS X wd W (.Assign [.Subscript (.Name x p) k spos] e pos) (sSetIx i w wk) := ⟨ps_imp (ps_asg he.pe (pg_sub (pe_var hN hv hd hcd) hk.pe set_list ha) hs hw h1) fun D σ H q => by
  obtain ⟨O, G, ρ, π, R, p⟩ := q
  refine ⟨O, G, ρ, π, R, Post.imp (PostS.expr p) fun y H' z => ?_⟩
  obtain ⟨O', G', π', d, R', S', r', p'⟩ := z
  have p2 : PostS X wd W G' D (match ρ[i]? with
    | some (some (.lst xs)) => SO.of ρ (wk ρ π') fun k π2 => (match setF xs k d with
      | some ys => .nx (ρ.set i (some (.lst ys))) π2
      | none => .bad)
    | _ => .bad) := p'
  clear p'
  split at p2
  · next xs hρ =>
    obtain ⟨a, vs, h1, h2, h3, h4⟩ := R'.slot i _ hρ
    refine ⟨_, h1, O', G', ρ, π', R', Post.imp (PostS.expr p2) fun kv H2 z => ?_⟩
    obtain ⟨O2, G2, π2, kd, R2, S2, r2, p3⟩ := z
    have p4 : PostS X wd W G2 D (match setF xs kd d with
      | some ys => .nx (ρ.set i (some (.lst ys))) π2
      | none => .bad) := p3
    clear p3
    unfold setF at p4
    split at p4
    · next ys ey =>
      split at ey
      · next n =>
        obtain ⟨j, e1, e2⟩ := Option.map_eq_some_iff.mp ey
        subst e2
        have h3' := S2.fr _ _ h3 (by rw [h2]; exact fun z => by cases z) (fun _ z => by cases z)
        refine ⟨a, vs, n, j, rfl, rB.i_int r2, h3', by rw [h4.length]; exact e1, ?_⟩
        exact p4.nx (R2.write hρ h1 (S2.oo _ _ h2) h3' (DpAll.set (r'.mono S2.sg) j (h4.mono S2.sg))) (Same.refl _)
      · cases ey
    · exact p4.elim
  · exact p2.elim⟩
/-- root[i] = e -/
def rootSet (ρ : Ev) (d k : D) : Rt → SO
  | .lst xs => (match setF xs k d with
    | some ys => .nx ρ (.lst ys)
    | none => .bad)
  | .no => .bad
def sSetIxR (i : Nat) (w : Ev → EM D) (wk : Ev → EM D) : SM := fun ρ π => SO.of ρ (w ρ π) fun d π' => (match ρ[i]? with
  | some (some .root) => SO.of ρ (wk ρ π') fun k π2 => rootSet ρ d k π2
  | _ => .bad)
theorem ds_setIxR (i : Nat) {k : Expr} {wk : Ev → EM D} {x : Str} {p spos : Pos} (he : DE X wd W e w) (hk : DB X wd W k wk) (hN : X.N[i]? = some x := by rfl) (hv : Vis X.env.scope x := by first | exact Or.inl rfl | exact Or.inr (Or.inl rfl) | exact Or.inr (Or.inr rfl)) (hd : (x == ("__debug__" : Str)) = false := by decide)
    (hcd : (x == ("__classdict__" : Str)) = false := by decide) (hs : swapsWithSole [.Subscript (.Name x p) k spos] e pos.line X.env = pure false := by rfl) (hw : swappedStores [.Subscript (.Name x p) k spos] e X.env = pure none := by rfl)
    (h1 : (assignEach [.Subscript (.Name x p) k spos] X.env).map (·.2) = [assign (.Subscript (.Name x p) k spos) X.env] := by rfl)
    (ha : ∀ v, assign (.Subscript (.Name x p) k spos) X.env v = (do
      let ov ← holding [v] (eval (.Name x p) X.env)
      let iv ← holding [v, ov] (eval k X.env)
      standAt spos
      holding [v, ov, iv] (setItem ov iv v)
      release [v, ov, iv] []) := by intro _; rfl) :
    DS X wd W (.Assign [.Subscript (.Name x p) k spos] e pos) (sSetIxR i w wk) := ⟨ps_imp (ps_asg he.pe (pg_sub (pe_var hN hv hd hcd) hk.pe set_list ha) hs hw h1) fun D σ H q => by
  obtain ⟨O, G, ρ, π, R, p⟩ := q
  refine ⟨O, G, ρ, π, R, Post.imp (PostS.expr p) fun y H' z => ?_⟩
  obtain ⟨O', G', π', d, R', S', r', p'⟩ := z
  have p2 : PostS X wd W G' D (match ρ[i]? with
    | some (some .root) => SO.of ρ (wk ρ π') fun k π2 => rootSet ρ d k π2
    | _ => .bad) := p'
  clear p'
  split at p2
  · next hρ =>
    obtain ⟨a, h1, h2⟩ := R'.slot i _ hρ
    refine ⟨_, h2, O', G', ρ, π', R', Post.imp (PostS.expr p2) fun kv H2 z => ?_⟩
    obtain ⟨O2, G2, π2, kd, R2, S2, r2, p3⟩ := z
    cases π2 with
    | no => exact p3.elim
    | lst xs =>
      obtain ⟨a', vs, k1, k2, k3, k4⟩ := R2.root
      rw [h1] at k1
      cases k1
      have p4 : PostS X wd W G2 D (match setF xs kd d with
        | some ys => .nx ρ (.lst ys)
        | none => .bad) := p3
      clear p3
      unfold setF at p4
      split at p4
      · next ys ey =>
        split at ey
        · next n =>
          obtain ⟨j, e1, e2⟩ := Option.map_eq_some_iff.mp ey
          subst e2
          refine ⟨a, vs, n, j, rfl, rB.i_int r2, k3, by rw [k4.length]; exact e1, ?_⟩
          exact PostS.nx (ρ' := ρ) p4 (R2.writeRoot h1 k2 k3 (DpAll.set (r'.mono S2.sg) j k4)) (Same.refl _)
        · cases ey
      · exact p4.elim
  · exact p2.elim⟩
/-- root[i], read -/
def eIxR (i : Nat) (wk : Ev → EM D) : Ev → EM D := fun ρ π => match ρ[i]? with
  | some (some .root) => (wk ρ π).bind fun k π2 => (match π2 with
    | .lst xs => ixM (.lst xs) k π2
    | _ => .bad)
  | _ => .bad
theorem de_ixR (i : Nat) {k : Expr} {wk : Ev → EM D} {x : Str} {p : Pos} (hk : DB X wd W k wk) (hN : X.N[i]? = some x := by rfl) (hv : Vis X.env.scope x := by first | exact Or.inl rfl | exact Or.inr (Or.inl rfl) | exact Or.inr (Or.inr rfl)) (hd : (x == ("__debug__" : Str)) = false := by decide)
    (hcd : (x == ("__classdict__" : Str)) = false := by decide) (hs : PlainIx k := by exact fun _ _ => rfl) : DE X wd W (.Subscript (.Name x p) k pos) (eIxR i wk) := ⟨pe_imp (pe_ix ix_list (pe_var hN hv hd hcd) hk.pe hs) fun σ H Q q => by
  obtain ⟨O, G, ρ, π, R, p⟩ := q
  unfold eIxR at p
  split at p
  · next hρ =>
    obtain ⟨a, h1, h2⟩ := R.slot i _ hρ
    refine ⟨_, h2, O, G, ρ, π, R, Post.imp (Post.chain (rep1 := rB X) p) fun kv H2 z => ?_⟩
    obtain ⟨O2, G2, π2, kd, R2, S2, r2, p3⟩ := z
    cases π2 with
    | no => exact p3.elim
    | lst xs =>
      dsimp only at p3
      obtain ⟨a', vs, k1, k2, k3, k4⟩ := R2.root
      rw [h1] at k1
      cases k1
      cases kd with
      | int n =>
        obtain ⟨d, e, p4⟩ := post_ofO (o := atI xs n) p3
        obtain ⟨v, e1, e2⟩ := atI_rep k4 e
        exact ⟨a, vs, n, v, rfl, rB.i_int r2, SqL.of k3, e1, Post.give p4 R2 e2⟩
      | _ => exact p3.elim
  · exact p.elim⟩
end
end DL

/-! Defs, exceptions over the data layer. -/
namespace DL
open PySem PySem.Spec PyProof.Rows L2
def argE : Option Nat → List D → List SV
  | none, ds => ds.map .dat
  | some 0, ds => .root :: ds.map .dat
  | some (k + 1), d :: ds => .dat d :: argE (some k) ds
  | some (_ + 1), [] => [.root]
def ρ0 (rt : Option Nat) (m : Nat) (ds : List D) : Ev := (argE rt ds).map some ++ List.replicate m none
/-- a def's body, from its arguments: m further slots -/
def runB (s : SM) (rt : Option Nat) (m : Nat) (ds : List D) : EM RV := fun π => match s (ρ0 rt m ds) π with
  | .nx _ π' => .ok (.dat .non) π'
  | .ret rv _ π' => .ok rv π'
  | .exc e _ π' => .exc e π'
  | _ => .bad
def ArgV (M : Md) (G : Hp) (r : Option Addr) (vs : List V) (i : Nat) : SV → Prop
  | .dat d => ∃ v, vs[i]? = some v ∧ Dp M G v d
  | .root => ∃ a, r = some a ∧ vs[i]? = some (.ref a)
  | .lst _ => False
  | .exn _ => False
theorem argE_plain {M : Md} {G : Hp} {r : Option Addr} {vs : List V} {ds : List D} (h : DpAll M G vs ds) : (ds.map SV.dat).length = vs.length ∧ ∀ (i : Nat) (sv : SV), (ds.map SV.dat)[i]? = some sv → ArgV M G r vs i sv := by
  refine ⟨by rw [List.length_map, h.length], fun i sv e => ?_⟩
  rw [List.getElem?_map] at e
  obtain ⟨d, e1, rfl⟩ := Option.map_eq_some_iff.mp e
  exact h.get e1
theorem ArgV.succ {M : Md} {G : Hp} {r : Option Addr} {v : V} {vs : List V} {i : Nat} {sv : SV} (h : ArgV M G r vs i sv) : ArgV M G r (v :: vs) (i + 1) sv := by
  cases sv with
  | dat d => exact h
  | root => exact h
  | lst _ => exact h
  | exn _ => exact h
theorem argE_rep {M : Md} {G : Hp} {r : Option Addr} {rt : Option Nat} {vs : List V} {ds : List D} (h : ArgsR M G r rt vs ds) : (argE rt ds).length = vs.length ∧ ∀ (i : Nat) (sv : SV), (argE rt ds)[i]? = some sv → ArgV M G r vs i sv := by
  induction h with
  | none h =>
    unfold argE
    exact argE_plain h
  | @here a vs ds hr h =>
    unfold argE
    obtain ⟨p1, p2⟩ := argE_plain (r := r) h
    refine ⟨by rw [List.length_cons, p1, List.length_cons], fun i sv e => ?_⟩
    cases i with
    | zero =>
      cases e
      exact ⟨a, hr, rfl⟩
    | succ i => exact (p2 i sv e).succ
  | @there k v vs d ds h _ ih =>
    unfold argE
    refine ⟨by rw [List.length_cons, ih.1, List.length_cons], fun i sv e => ?_⟩
    cases i with
    | zero =>
      cases e
      exact ⟨v, rfl, h⟩
    | succ i => exact (ih.2 i sv e).succ
theorem RW.retW {M : Md} {H G0 : Hp} {O0 O' : Own} {r : Option Addr} {G' H' : Hp} {σ' : L2.St} {ρ' : Ev} {π' : Rt} (R : RW M (wdF H G0 O0 r) O' G' σ' H' ρ' π') : RetW M H G0 O0 r O' G' H' π' :=
  ⟨R.g0, R.sub, R.new, R.nt, fun b o h1 h2 => R.keep b o h2 (fun z => by cases z) h1, R.there, fun b h => (R.own b none h).2.2, fun b h => ⟨(R.own b none h).1, (R.own b none h).2.1⟩, R.root⟩
section
variable {P : Program} {w : World} {K : PySem.W.Frag} {mg : Str → Option Value} {base : Heap}
/-- THE RULE for a def -/
theorem fnG_mk {x : Str} {st : Stmt} {f : Addr} {fd : FuncData} {N ps : List Str} {k : Nat} {rt : Option Nat} {m : Nat} {s : SM} (Fu : Fun K x x st f fd) (hmg : mg x = some (.ref f)) (hb : Binds K fd ps []) (S : FnScope N ps (defScope st)) (hm : N.length = ps.length + m)
    (hbody : ∀ (cdv : Value) (A : Around) (outer : List Env) (sh : Shared) (H : Hp) (E : XK) (wd : Wd), Room k (A.deeper (envOfC x (defScope st) sh.heap.objs.size f cdv)) → DSs (cxOf (L2.CX P w) P w K mg base N x (defScope st) f cdv A outer sh H E) wd (fun _ => E) (defBody st) s) :
    FnG P w K mg base x (k + 1) rt ps.length (runB s rt m) := by
  refine ⟨f, fd, ps, Fu.okX S (fun vs H Q E h => ?_) (fun cdv A outer sh H vs Q E hr hsp => ?_), hmg, Fu.kp, hb⟩
  · obtain ⟨_, _, _, _, _, h, _⟩ := h
    exact h
  · obtain ⟨G0, O0, r, ds, π, a0, a1, a2, a3, a4, a5, a6⟩ := hsp
    refine ⟨_, (hbody cdv A outer sh H E (wdF H G0 O0 r) hr).ps, O0, G0, ρ0 rt m ds, π, ?_, ?_⟩
    · obtain ⟨l1, l2⟩ := argE_rep a5
      have hst : L2.start N vs = vs.map some ++ List.replicate m none := by
        unfold L2.start
        rw [hm, a0, Nat.add_sub_cancel_left]
      refine ⟨Same.refl _, a1, fun b o h => .inl h, a2, fun b o _ _ h => h, fun b h => h, True.intro, fun b w h => ?_, a4, ?_, fun i sv e => ?_⟩
      · obtain ⟨rfl, b1, b2⟩ := a3 b w h
        exact ⟨b1, b2, .inl h⟩
      · rw [hst]
        unfold ρ0
        rw [List.length_append, List.length_append, List.length_map, List.length_map, l1, List.length_replicate, List.length_replicate]
      · unfold ρ0 at e
        by_cases hi : i < (argE rt ds).length
        · rw [List.getElem?_append_left (by rw [List.length_map]; exact hi), List.getElem?_map] at e
          obtain ⟨sv', e1, e2⟩ := Option.map_eq_some_iff.mp e
          cases e2
          have q := l2 i sv e1
          have g : ∀ v, vs[i]? = some v → (L2.start N vs)[i]? = some (some v) := fun v z => by
            rw [hst, List.getElem?_append_left (by rw [List.length_map, ← l1]; exact hi), List.getElem?_map, z]
            rfl
          cases sv with
          | dat d =>
            obtain ⟨v, q1, q2⟩ := q
            exact ⟨v, g v q1, q2⟩
          | root =>
            obtain ⟨a, q1, q2⟩ := q
            exact ⟨a, q1, g _ q2⟩
          | lst _ => exact q.elim
          | exn _ => exact q.elim
        · rw [List.getElem?_append_right (by rw [List.length_map]; omega)] at e
          have := List.mem_replicate.mp (List.mem_of_getElem? e)
          cases this.2
    · unfold runB at a6
      cases es : s (ρ0 rt m ds) π with
      | nx ρ' π' =>
        rw [es] at a6
        exact fun σ' O' G' H' R S => a6 .non O' G' H' R.retW .non
      | ret rv ρ' π' =>
        rw [es] at a6
        intro v σ' O' G' H' R S rep
        refine a6 v O' G' H' R.retW ?_
        cases rv with
        | dat d => exact rep
        | lst xs =>
          obtain ⟨a, vs, q1, q2, q3, q4, q5, q6⟩ := rep
          exact ⟨a, vs, q1, q2, q3, q5, (by rw [q4]; exact fun z => by cases z), q6⟩
      | exc e ρ' π' =>
        rw [es] at a6
        exact fun c dx σ' O' G' H' R S rep => a6 c dx O' G' H' R.retW rep
      | brk ρ' π' => rw [es] at a6; exact a6.elim
      | ct ρ' π' => rw [es] at a6; exact a6.elim
      | bad => rw [es] at a6; exact a6.elim
end
/-! ### raise -/
section
variable {X : Cx} {wd : Wd} {W : WS} {O : Own} {G G1 : Hp} {σ : L2.St} {H : Hp} {ρ : Ev} {π : Rt} {Dn : Ends} {pos : Pos}
/-- X(), X an own exception class without __init__ -/
theorem pmk_own0 {C : Addr} {bmB : List Value} {B newId initId : String} {x : Str} {p : Pos} (F : ExcBaseFacts B newId initId bmB) (q : PySem.W.excIn X.K C bmB newId = true) (gC : X.mg x = some (.ref C)) (kC : PySem.W.keepIn X.K (.ref C) = true) (r : Raises X (.ref C)) (hg : Gl X x)
    (hdb : (x == ("__debug__" : Str)) = false := by decide) : PMk X (.Call (.Name x p) [] [] pos) (fun _ H Q => Q (.ref C) none H) := by
  intro pins s σ H Q I h
  refine wpAny_Call_Name_kw (ld_glob I hg gC ?_ hdb)
  refine PySem.W.callWith_K0 I.kIn kC ?_
  show wpAny _ _ (call (.ref C) []) _ _ _
  obtain ⟨bm, N, nm, qn, bs, hdct, sn, sub, ab, col, dd, k0, k1, k2, k3, k5, mN, hC, hN, hni, T⟩ := exc_obj I.kIn q
  refine wpAny_call_exc_subT F T hC hN hni (fun h' e hm => ?_) (by show 0 ≤ sizeLine; exact Nat.zero_le _)
  exact mk_of I hm r h (I.hok.gone hm.new)
/-- an exception class: without __init__ -/
structure ExN (K : PySem.W.Frag) (mg : Str → Option Value) (x : Str) : Prop where
  ex : ∃ C, mg x = some (.ref C) ∧ PySem.W.excIn K C PySem.HandSPX.veTail "ValueError.__new__" = true ∧ PySem.W.keepIn K (.ref C) = true ∧ PySem.W.subIn K (.ref C) (.type "BaseException") = some true ∧ PySem.W.typeIn K (.ref C) = some (.type "type")
def sRaise (c : Str) (names : List Str) (ws : Ev → EM (List D)) : SM := fun ρ π => SO.of ρ (ws ρ π) fun ds π' => if ds.length = names.length then .exc ⟨c, (names.zip ds).reverse⟩ ρ π' else .bad
def WX_ (W : WS) : WX := fun c d σ H => W σ c d H
theorem ds_raise0 {x : Str} {p pos' : Pos} (T : ExN X.K X.mg x) (hc : X.calm = true) (tk : Takes X (WX_ W)) (hg : Gl X x) (hdb : (x == ("__debug__" : Str)) = false := by decide) : DS X wd W (.Raise (some (.Call (.Name x p) [] [] pos)) none pos') (sRaise x [] aNil) := by
  obtain ⟨C, h1, h2, h3, h4, h5⟩ := T.ex
  exact ⟨ps_imp (ps_raise hc tk (pmk_own0 PySem.F.excBase_ValueError h2 h1 h3 (raises_own h4 h5) hg hdb)) fun D σ H q => by
    obtain ⟨O, G, ρ, π, R, p⟩ := q
    exact p (.ref C) none σ O G H R (Same.refl _) ⟨C, rfl, h1, rfl⟩⟩
/-- what __init__ of an exception class with these fields does -/
def spX (K : PySem.W.Frag) (names : List Str) : Sp := fun vs H Q _ => ∃ (a C : Addr) (ws : List V), vs = .ref a :: ws ∧ ws.length = names.length ∧ L2.OexC K C ∧ (∀ f ∈ names, PySem.W.findIn K (.ref C) f = some none) ∧ H a = some (exo a C none) ∧
  ∀ d, H d = none → d ≠ a → Q .non (upd (upd H d (exd d (names.zip ws).reverse)) a (exo a C (some d)))
/-- an exception class with an __init__ that keeps its arguments -/
structure ExI (P : Program) (w : World) (K : PySem.W.Frag) (mg : Str → Option Value) (base : Heap) (x : Str) (k : Nat) (names : List Str) : Prop where
  ex : ∃ (C fI : Addr) (fd : FuncData) (ps : List Str), mg x = some (.ref C) ∧ L2.OexC K C ∧ PySem.W.findIn K (.ref C) "__init__" = some (some (.ref fI)) ∧ PySem.W.typeIn K (.ref fI) = some (.type "function") ∧ FnOk P w K mg base (L2.CX P w) k fI fd ps (spX K names) ∧ Binds K fd ps [] ∧ ∀ f ∈ names, PySem.W.findIn K (.ref C) f = some none
theorem init1 {P : Program} {w : World} {K : PySem.W.Frag} {mg : Str → Option Value} {base : Heap} {x q : Str} {st : Stmt} {f : Addr} {fd : FuncData} {self a1 f1 : Str} {p1 p2 p3 p4 : Pos} (Fu : Fun K x q st f fd) (S : FnScope [self, a1] [self, a1] (defScope st)) (hs : Loc (defScope st) self) (h1 : Loc (defScope st) a1)
    (hd1 : (self == ("__debug__" : Str)) = false) (hd2 : (self == ("__classdict__" : Str)) = false) (hd3 : (a1 == ("__debug__" : Str)) = false) (hd4 : (a1 == ("__classdict__" : Str)) = false)
    (hb : defBody st = [.Assign [.Attribute (.Name self p1) f1 p2] (.Name a1 p3) p4]) : FnOk P w K mg base (L2.CX P w) 1 f fd [self, a1] (spX K [f1]) := by
  have vis : ∀ {y}, Loc (defScope st) y → Vis (defScope st) y := fun h => h.elim .inl fun z => .inr (.inl z)
  refine Fu.okX S (fun vs H Q E h => ?_) (fun cdv A outer sh H vs Q E hr hsp => ?_)
  · obtain ⟨a, C, ws, rfl, h, _⟩ := h
    show ws.length + 1 = 2
    rw [h]
    rfl
  · obtain ⟨a, C, ws, rfl, hl, T, hno, hH, q⟩ := hsp
    obtain ⟨v, rfl⟩ : ∃ v, ws = [v] := by
      match ws, hl with
      | [v], _ => exact ⟨v, rfl⟩
    rw [hb]
    refine ⟨_, pss_one (ps_ost (pe_var (i := 0) rfl (vis hs) hd1 hd2) (pe_var (i := 1) rfl (vis h1) hd3 hd4)), ?_⟩
    exact ⟨v, rfl, _, rfl, a, C, rfl, T, hno _ List.mem_cons_self, .inl ⟨hH, fun dx n ne => q dx n ne⟩⟩
theorem init2 {P : Program} {w : World} {K : PySem.W.Frag} {mg : Str → Option Value} {base : Heap} {x q : Str} {st : Stmt} {f : Addr} {fd : FuncData} {self a1 f1 a2 f2 : Str} {p1 p2 p3 p4 p5 p6 p7 p8 : Pos} (Fu : Fun K x q st f fd) (S : FnScope [self, a1, a2] [self, a1, a2] (defScope st)) (hs : Loc (defScope st) self) (h1 : Loc (defScope st) a1) (h2 : Loc (defScope st) a2)
    (hd1 : (self == ("__debug__" : Str)) = false) (hd2 : (self == ("__classdict__" : Str)) = false) (hd3 : (a1 == ("__debug__" : Str)) = false) (hd4 : (a1 == ("__classdict__" : Str)) = false) (hd5 : (a2 == ("__debug__" : Str)) = false) (hd6 : (a2 == ("__classdict__" : Str)) = false)
    (hb : defBody st = [.Assign [.Attribute (.Name self p1) f1 p2] (.Name a1 p3) p4, .Assign [.Attribute (.Name self p5) f2 p6] (.Name a2 p7) p8]) : FnOk P w K mg base (L2.CX P w) 1 f fd [self, a1, a2] (spX K [f1, f2]) := by
  have vis : ∀ {y}, Loc (defScope st) y → Vis (defScope st) y := fun h => h.elim .inl fun z => .inr (.inl z)
  refine Fu.okX S (fun vs H Q E h => ?_) (fun cdv A outer sh H vs Q E hr hsp => ?_)
  · obtain ⟨a, C, ws, rfl, h, _⟩ := h
    show ws.length + 1 = 3
    rw [h]
    rfl
  · obtain ⟨a, C, ws, rfl, hl, T, hno, hH, q⟩ := hsp
    obtain ⟨v, v2, rfl⟩ : ∃ v v2, ws = [v, v2] := by
      match ws, hl with
      | [v, v2], _ => exact ⟨v, v2, rfl⟩
    rw [hb]
    refine ⟨_, pss_cons (ps_ost (pe_var (i := 0) rfl (vis hs) hd1 hd2) (pe_var (i := 1) rfl (vis h1) hd3 hd4)) (pss_one (ps_ost (pe_var (i := 0) rfl (vis hs) hd1 hd2) (pe_var (i := 2) rfl (vis h2) hd5 hd6))), ?_⟩
    refine ⟨v, rfl, _, rfl, a, C, rfl, T, hno _ List.mem_cons_self, .inl ⟨hH, fun dx n ne => ?_⟩⟩
    refine ⟨v2, rfl, _, rfl, a, C, rfl, T, hno _ (List.mem_cons_of_mem _ List.mem_cons_self), .inr ⟨dx, [(f1, v)], upd_same, by rw [upd_ne ne, upd_same], by show 1 ≤ 900; decide, ?_⟩⟩
    have e : upd (upd (upd H dx (exd dx [(f1, v)])) a (exo a C (some dx))) dx (exd dx [(f2, v2), (f1, v)]) = upd (upd H dx (exd dx [(f2, v2), (f1, v)])) a (exo a C (some dx)) := by
      funext b
      by_cases z1 : b = dx
      · subst z1
        rw [upd_same, upd_ne ne, upd_same]
      · rw [upd_ne z1]
        by_cases z2 : b = a
        · subst z2
          rw [upd_same, upd_same]
        · rw [upd_ne z2, upd_ne z2, upd_ne z1, upd_ne z1]
    rw [e]
    exact q dx n ne
theorem DpF.zip {M : Md} : ∀ {names : List Str} {vs : List V} {ds : List D}, DpAll M G vs ds → DpF M G (names.zip vs) (names.zip ds)
  | [], _, _, _ => by simp; exact .nil
  | _ :: _, _, _, .nil => .nil
  | _ :: _, _, _, .cons a t => .cons a (DpF.zip t)
theorem DpF.append {M : Md} : ∀ {a b : List (Str × V)} {c d : List (Str × D)}, DpF M G a c → DpF M G b d → DpF M G (a ++ b) (c ++ d)
  | _, _, _, _, .nil, h => h
  | _, _, _, _, .cons x t, h => .cons x (DpF.append t h)
theorem DpF.rev {M : Md} : ∀ {a : List (Str × V)} {c : List (Str × D)}, DpF M G a c → DpF M G a.reverse c.reverse
  | _, _, .nil => .nil
  | _, _, .cons x t => by
    rw [List.reverse_cons, List.reverse_cons]
    exact (DpF.rev t).append (.cons x .nil)
theorem ds_raise {x : Str} {k : Nat} {names : List Str} {e : Expr} {es : List Expr} {ws : Ev → EM (List D)} {p pos' : Pos} (T : ExI X.prog X.w X.K X.mg X.base x k names) (hr : Room (k + 1) X.A) (hc : X.calm = true) (tk : Takes X (WX_ W)) (hg : Gl X x) (ha : DA X wd W (e :: es) ws) (hn : names.length ≤ 1000 := by decide)
    (hdb : (x == ("__debug__" : Str)) = false := by decide) (he : starEach (e :: es) X.env = (false, eval e X.env) :: starEach es X.env := by rfl) (hpl : (backTo pos (starEach es X.env)).any (·.1) = false := by rfl) :
    DS X wd W (.Raise (some (.Call (.Name x p) (e :: es) [] pos)) none pos') (sRaise x names ws) := by
  obtain ⟨C, fI, fd, ps, h1, h2, h3, h4, h5, h6, h7⟩ := T.ex
  exact ⟨ps_imp (ps_raise hc tk (pmk_oex (dvs := []) (ds := []) h2 h3 h4 h5 hr h6 .nil passL hg h1 ha.pa hdb he hpl)) fun D σ H q => by
    obtain ⟨O, G, ρ, π, R, p⟩ := q
    refine ⟨O, G, ρ, π, R, Post.imp (PostS.expr p) fun vs H1 z => ?_⟩
    obtain ⟨O1, G1, π1, ds, R1, S1, r1, p1⟩ := z
    have p2 : PostS X wd W G1 D (if ds.length = names.length then .exc ⟨x, (names.zip ds).reverse⟩ ρ π1 else .bad) := p1
    clear p1
    split at p2
    · next hl =>
      have r1 : DpAll (md X) G1 vs ds := r1
      have lv : vs.length = names.length := r1.length.trans hl
      refine ⟨by rw [lv]; exact hn, fun a na => ⟨a, C, vs ++ [], rfl, by rw [List.append_nil]; exact lv, h2, h7, upd_same, fun d nd hda => ⟨rfl, d, (names.zip (vs ++ [])).reverse, upd_same, by rw [upd_ne hda, upd_same], by rw [upd_ne hda] at nd; exact nd, ?_⟩⟩⟩
      have nd' : H1 d = none := by rw [upd_ne hda] at nd; exact nd
      rw [List.append_nil]
      have eH : upd (del (upd (upd (upd H1 a (exo a C none)) d (exd d (names.zip vs).reverse)) a (exo a C (some d))) a) d (.xd (names.zip vs).reverse) = upd H1 d (.xd (names.zip vs).reverse) := by
        funext b
        by_cases z : b = d
        · subst z; rw [upd_same, upd_same]
        · rw [upd_ne z, upd_ne z]
          by_cases z2 : b = a
          · subst z2; rw [del_same, na]
          · rw [del_ne z2, upd_ne z2, upd_ne z, upd_ne z2]
      rw [eH]
      obtain ⟨RA, SA, gA⟩ := R1.allocG (o := .xd (names.zip vs).reverse) nd' (fun _ z => by cases z)
      exact p2 (.ref C) (some d) σ _ _ _ RA SA.sg ⟨C, rfl, h1, _, DpF.rev (DpF.zip (r1.mono SA.sg)), gA⟩
    · exact p2.elim⟩
/-! ### try -/
abbrev Tab := List (Str × Bool)
def handle : List (Tab × SM) → Exn → SM
  | [], e => fun ρ π => .exc e ρ π
  | (tab, u) :: r, e => match tab.lookup e.c with
    | some true => u
    | some false => handle r e
    | none => fun _ _ => .bad
def sTry (hs : List (Tab × SM)) (s : SM) : SM := fun ρ π => match s ρ π with
  | .exc e ρ' π' => handle hs e ρ' π'
  | o => o
/-- what the classes of a table are to the class of a clause -/
def TabOk (X : Cx) (c : Value) (tab : Tab) : Prop := ∀ p ∈ tab, ∃ C1, X.mg p.1 = some (.ref C1) ∧ PySem.W.exmOne X.K (.ref C1) c = some p.2
def WN : WS := fun _ => E0
def noXS (u : SM) : SM := fun ρ π => match u ρ π with
  | .exc _ _ _ => .bad
  | o => o
inductive HR (X : Cx) (wd : Wd) : List ExceptHandler → List (Value × (Addr → Value → Option Addr → TS)) → List (Tab × SM) → Prop
  | nil : HR X wd [] [] []
  | cons {x : Str} {c : Value} {b₀ : Stmt} {suite : List Stmt} {np pos' : Pos} {hds : List ExceptHandler} {l : List (Value × (Addr → Value → Option Addr → TS))} {tab : Tab} {u : SM} {hs : List (Tab × SM)} (hc : Names X x c) (ht : TabOk X c tab)
      (hsu : ∀ (a : Addr) (oe : Obj) (pn : List (Addr × Obj)), DSs (X.suite a ((a, oe) :: pn)) wd WN (b₀ :: suite) u) (r : HR X wd hds l hs) :
      HR X wd (.ExceptHandler (some (.Name x np)) none (b₀ :: suite) pos' :: hds) ((c, fun _ _ _ => tS X wd WN u) :: l) ((tab, noXS u) :: hs)
theorem HR.ok {hds : List ExceptHandler} {l : List (Value × (Addr → Value → Option Addr → TS))} {hs : List (Tab × SM)} (h : HR X wd hds l hs) : HdsOk X hds l := by
  induction h with
  | nil => exact .nil
  | cons hc ht hsu r ih => exact .cons hc (fun a oe cls d pn _ _ => (hsu a oe pn).ps) ih
theorem mem_lookup {tab : Tab} {c : Str} {b : Bool} (h : tab.lookup c = some b) : (c, b) ∈ tab := by
  induction tab with
  | nil => cases h
  | cons p r ih =>
    obtain ⟨d, b'⟩ := p
    rw [List.lookup_cons] at h
    split at h
    · next e =>
      cases h
      rw [beq_iff_eq.mp e]
      exact List.mem_cons_self
    · exact List.mem_cons_of_mem _ (ih h)
theorem HR.post {hds : List ExceptHandler} {l : List (Value × (Addr → Value → Option Addr → TS))} {hs : List (Tab × SM)} (h : HR X wd hds l hs) {e : Exn} {c : Value} {dx : Option Addr} {O' : Own} {G' H' : Hp} {σ' : L2.St} {ρ' : Ev} {π' : Rt} {D : Ends} (R : RW (md X) wd O' G' σ' H' ρ' π') (rep : ExRep (md X) G' c dx e) (p : PostS X wd W G' D (handle hs e ρ' π')) :
    wMany X.K (WX_ W) D l c dx σ' H' := by
  induction h with
  | nil => exact p c dx σ' O' G' H' R (Same.refl _) rep
  | @cons x ch b₀ suite np pos' hds l tab u hs hc ht hsu r ih =>
    unfold handle at p
    obtain ⟨C, rfl, hC, _⟩ := id rep
    cases el : tab.lookup e.c with
    | none => rw [el] at p; exact p.elim
    | some b =>
      obtain ⟨C1, e1, e2⟩ := ht _ (mem_lookup el)
      have hC : X.mg e.c = some (.ref C) := hC
      rw [hC] at e1
      cases e1
      rw [el] at p
      refine ⟨b, e2, fun eb a _ => ?_, fun eb => ?_⟩
      · subst eb
        refine ⟨O', G', ρ', π', R, ?_⟩
        have p : PostS X wd W G' D (match u ρ' π' with
          | .exc _ _ _ => .bad
          | o => o) := p
        cases eu : u ρ' π' with
        | exc e' ρ2 π2 => rw [eu] at p; exact p.elim
        | nx ρ2 π2 => rw [eu] at p; exact p
        | ret rv ρ2 π2 => rw [eu] at p; exact p
        | brk ρ2 π2 => rw [eu] at p; exact p
        | ct ρ2 π2 => rw [eu] at p; exact p
        | bad => rw [eu] at p; exact p
      · subst eb
        exact ih p
end
end DL

/-! try, comprehensions given to a name, several names at once. -/
namespace DL
open PySem PySem.Spec PyProof.Rows L2
section
variable {X : Cx} {wd : Wd} {W : WS} {O : Own} {G G1 : Hp} {σ : L2.St} {H : Hp} {ρ : Ev} {π : Rt} {Dn : Ends} {pos : Pos}
theorem ds_try {body : List Stmt} {h₀ : ExceptHandler} {hds : List ExceptHandler} {l : List (Value × (Addr → Value → Option Addr → TS))} {hs : List (Tab × SM)} {s : SM} (hst : X.stack = X.env :: X.outer) (hf : X.env.frame = some X.env.locals) (tk : Takes X (WX_ W))
    (hb : ∀ (W' : WX) (pn : List (Addr × Obj)) (xe : Value → Shared → Prop), Takes (X.tr pn xe) W' → PassesOwn (model X.prog X.w) X.A X.env xe → DSs (X.tr pn xe) wd (fun σ c d H => W' c d σ H) body s) (hh : HR X wd (h₀ :: hds) l hs) :
    DS X wd W (.Try body (h₀ :: hds) [] [] pos) (sTry hs s) := ⟨ps_imp (ps_try_many (tb := fun W' => tS X wd (fun σ c d H => W' c d σ H) s) hst hf tk (fun W' pn xe t po => (hb W' pn xe t po).ps) hh.ok) fun D σ H q => by
  obtain ⟨O, G, ρ, π, R, p⟩ := q
  refine ⟨O, G, ρ, π, R, ?_⟩
  unfold sTry at p
  cases e : s ρ π with
  | exc e' ρ' π' => rw [e] at p; exact fun c dx σ' O' G' H' R' S' rep => hh.post R' rep (PostS.shift p S')
  | nx ρ' π' => rw [e] at p; exact p
  | ret rv ρ' π' => rw [e] at p; exact p
  | brk ρ' π' => rw [e] at p; exact p
  | ct ρ' π' => rw [e] at p; exact p
  | bad => rw [e] at p; exact p⟩
/-- name = [.. for ..], made plain; kept as the name's own -/
theorem ds_setC (i : Nat) {y : Str} {py : Pos} {elt tg iter : Expr} {ifs : List Expr} {scope : Scope} {own : List (Str × Nat)} {lpos : Pos} {w : Ev → EM (List D)} {g : GM} {ts : List Nat} {t : Ev → EM Bool} {f : Ev → EM D} (hc : X.calm = true) (hN : X.N.Nodup) (hi : DI X wd W tg iter w) (ok : BlkOk X.N X.env.scope scope own)
    (hts : ∀ i ∈ ts, i ∈ own.map (·.2)) (hg : ∀ (s : Shared) (H : Hp) (C : Addr) (cl : List (Str × Addr)) (fp : List Addr), DG (X.blk s H scope (compEnvC scope cl C X.env) fp) wd tg ts g)
    (ht : ∀ (s : Shared) (H : Hp) (C : Addr) (cl : List (Str × Addr)) (fp : List Addr), DTs (X.blk s H scope (compEnvC scope cl C X.env) fp) wd W0 ifs t)
    (he : ∀ (s : Shared) (H : Hp) (C : Addr) (cl : List (Str × Addr)) (fp : List Addr), DE (X.blk s H scope (compEnvC scope cl C X.env) fp) wd W0 elt f) (hy : X.N[i]? = some y := by rfl) (hyl : X.env.scope.names.lookup y = some .local := by rfl)
    (hsw : swapsWith (.ListComp elt [⟨tg, iter, ifs, 0⟩] scope lpos) (some (.Name y py)) pos.line X.env = pure true := by rfl) (hs : ∀ x, foldedSetIterable iter X.env x = pure x := by intro _; rfl) :
    DS X wd W (.Assign [.Name y py] (.ListComp elt [⟨tg, iter, ifs, 0⟩] scope lpos) pos) (sSet i (eFrz (eComp w g t f (own.map (·.2))))) :=
  ⟨ps_imp (ps_setLc (g := tgG X wd ts g) (tt := tG X wd W0 rT t) (te := tG X wd W0 (rD X) f) hc hN hy hyl hsw hi.pi ok (fun s H C cl fp => (hg s H C cl fp).pg) (fun s H C cl fp => (ht s H C cl fp).pt) (fun s H C cl fp => (he s H C cl fp).pe) hs) fun D σ H q => by
    obtain ⟨O, G, ρ, π, R, p⟩ := q
    refine sem_comp (ts := ts) hts ⟨O, G, ρ, π, R, ?_⟩
    have p2 : PostS X wd W G D (SO.of ρ (eComp w g t f (own.map (·.2)) ρ π) fun xs π' => .nx (ρ.set i (some (.dat (.lst xs)))) π') := by
      have e : sSet i (eFrz (eComp w g t f (own.map (·.2)))) ρ π = SO.of ρ (eComp w g t f (own.map (·.2)) ρ π) fun xs π' => .nx (ρ.set i (some (.dat (.lst xs)))) π' := by
        unfold sSet eFrz
        rw [em_bind]
        cases eComp w g t f (own.map (·.2)) ρ π <;> rfl
      rw [← e]
      exact p
    refine Post.imp (PostS.expr p2) fun v H' z => ?_
    obtain ⟨O', G', π', xs, R', S', ⟨b, vs, rfl, h1, h2, h3, h4, h5⟩, p'⟩ := z
    obtain ⟨R2, S2, e⟩ := R'.know h1 h2 h3 h4 (fun ps z => by cases z)
    exact p'.nx (R2.setDat (.lst e (h5.mono S2.sg))) S2.sg⟩
theorem ds_setCF (i : Nat) {y : Str} {py : Pos} {elt tg iter : Expr} {ifs : List Expr} {scope : Scope} {own : List (Str × Nat)} {lpos : Pos} {w : Ev → EM (List D)} {g : GM} {ts : List Nat} {t : Ev → EM Bool} {f : Ev → EM D} (hc : X.calm = true) (hN : X.N.Nodup) (hi : DI X wd W tg iter w) (ok : BlkOk X.N X.env.scope scope own)
    (hts : ∀ i ∈ ts, i ∈ own.map (·.2)) (hg : ∀ (s : Shared) (H : Hp) (C : Addr) (cl : List (Str × Addr)) (fp : List Addr), DG (X.blk s H scope (compEnvC scope cl C X.env) fp) wd tg ts g)
    (ht : ∀ (s : Shared) (H : Hp) (C : Addr) (cl : List (Str × Addr)) (fp : List Addr), DTs (X.blk s H scope (compEnvC scope cl C X.env) fp) wd W0 ifs t)
    (he : ∀ (s : Shared) (H : Hp) (C : Addr) (cl : List (Str × Addr)) (fp : List Addr), DE (X.blk s H scope (compEnvC scope cl C X.env) fp) wd W0 elt f) (hy : X.N[i]? = some y := by rfl) (hyl : X.env.scope.names.lookup y = some .local := by rfl)
    (hsw : swapsWith (.ListComp elt [⟨tg, iter, ifs, 0⟩] scope lpos) (some (.Name y py)) pos.line X.env = pure true := by rfl) (hs : ∀ x, foldedSetIterable iter X.env x = pure x := by intro _; rfl) :
    DS X wd W (.Assign [.Name y py] (.ListComp elt [⟨tg, iter, ifs, 0⟩] scope lpos) pos) (sSetF i (eComp w g t f (own.map (·.2)))) :=
  ⟨ps_imp (ps_setLc (g := tgG X wd ts g) (tt := tG X wd W0 rT t) (te := tG X wd W0 (rD X) f) hc hN hy hyl hsw hi.pi ok (fun s H C cl fp => (hg s H C cl fp).pg) (fun s H C cl fp => (ht s H C cl fp).pt) (fun s H C cl fp => (he s H C cl fp).pe) hs) fun D σ H q => by
    obtain ⟨O, G, ρ, π, R, p⟩ := q
    refine sem_comp (ts := ts) hts ⟨O, G, ρ, π, R, ?_⟩
    refine Post.imp (PostS.expr p) fun v H' z => ?_
    obtain ⟨O', G', π', xs, R', S', ⟨b, vs, rfl, h1, h2, h3, h4, h5⟩, p'⟩ := z
    exact p'.nx (R'.setOwn h1 h2 h4 (fun w z => by rw [h3] at z; cases z) h5) (Same.refl _)⟩
/-! ### a, b = x, y -/
/-- plain values and new lists, in a row; kk: more than there are slots -/
inductive KV where
  | dat (d : D)
  | lst (xs : List D)
inductive rKs (X : Cx) (wd : Wd) (O : Own) (G H : Hp) : Nat → List V → List KV → Prop
  | nil {kk : Nat} : rKs X wd O G H kk [] []
  | dat {kk : Nat} {v : V} {d : D} {vs : List V} {ks : List KV} : Dp (md X) G v d → rKs X wd O G H (kk + 1) vs ks → rKs X wd O G H kk (v :: vs) (.dat d :: ks)
  | lst {kk : Nat} {a : Addr} {ws : List V} {xs : List D} {vs : List V} {ks : List KV} : O a = some (some kk) → H a = some (.lst ws) → DpAll (md X) G ws xs → rKs X wd O G H (kk + 1) vs ks → rKs X wd O G H kk (.ref a :: vs) (.lst xs :: ks)
def tK (X : Cx) (wd : Wd) (W : WS) (kk : Nat) (w : Ev → EM (List KV)) : TA := fun σ H Q => ∃ O G ρ π, RW (md X) wd O G σ H ρ π ∧ ρ.length ≤ kk ∧ Post X wd W (fun O' G' H' vs ks => rKs X wd O' G' H' kk vs ks) O G σ H ρ Q (w ρ π)
structure DKs (X : Cx) (wd : Wd) (W : WS) (kk : Nat) (es : List Expr) (w : Ev → EM (List KV)) : Prop where
  pa : PA X es (tK X wd W kk w)
def kNil : Ev → EM (List KV) := fun _ => pure []
def kDat (a : Ev → EM D) (r : Ev → EM (List KV)) : Ev → EM (List KV) := fun ρ => do
  let x ← a ρ
  let xs ← r ρ
  pure (.dat x :: xs)
def kLst (a : Ev → EM (List D)) (r : Ev → EM (List KV)) : Ev → EM (List KV) := fun ρ => do
  let x ← a ρ
  let xs ← r ρ
  pure (.lst x :: xs)
theorem dks_nil {kk : Nat} : DKs X wd W kk [] kNil := ⟨pa_imp pa_nil fun σ H Q q => by
  obtain ⟨O, G, ρ, π, R, hk, p⟩ := q
  exact p [] O G H R (Step.refl _ _ _) .nil⟩
theorem dks_dat {kk : Nat} {e : Expr} {es : List Expr} {a : Ev → EM D} {r : Ev → EM (List KV)} (ha : DE X wd W e a) (hr : DKs X wd W (kk + 1) es r) (hs : starEach (e :: es) X.env = (false, eval e X.env) :: starEach es X.env := by rfl) : DKs X wd W kk (e :: es) (kDat a r) := ⟨pa_imp (pa_cons ha.pe hr.pa hs) fun σ H Q q => by
  obtain ⟨O, G, ρ, π, R, hk, p⟩ := q
  refine ⟨O, G, ρ, π, R, Post.imp (Post.chain (o := a ρ π) p) fun v H1 z => ?_⟩
  obtain ⟨O1, G1, π1, d, R1, S1, r1, p1⟩ := z
  refine ⟨O1, G1, ρ, π1, R1, Nat.le_succ_of_le hk, Post.imp (Post.chain (o := r ρ π1) p1) fun vs H2 z => ?_⟩
  obtain ⟨O2, G2, π2, ds, R2, S2, r2, p2⟩ := z
  exact p2 _ _ _ _ R2 (Step.refl _ _ _) (.dat (Dp.mono S2.sg r1) r2)⟩
theorem dks_lst {kk : Nat} {e : Expr} {es : List Expr} {a : Ev → EM (List D)} {r : Ev → EM (List KV)} (ha : DF X wd W e a) (hr : DKs X wd W (kk + 1) es r) (hs : starEach (e :: es) X.env = (false, eval e X.env) :: starEach es X.env := by rfl) : DKs X wd W kk (e :: es) (kLst a r) := ⟨pa_imp (pa_cons ha.pe hr.pa hs) fun σ H Q q => by
  obtain ⟨O, G, ρ, π, R, hk, p⟩ := q
  refine ⟨O, G, ρ, π, R, Post.imp (Post.chain (o := a ρ π) p) fun v H1 z => ?_⟩
  obtain ⟨O1, G1, π1, xs, R1, S1, ⟨b, ws, rfl, h1, h2, h3, h4, h5⟩, p1⟩ := z
  have RT := R1.take (k := kk) h1 (fun f => f) h2 h3 h4
  have ST : Step O1 G1 H1 (updO O1 b (some (some kk))) G1 H1 := ⟨Same.refl _, fun _ _ h _ _ => h, fun c i h => by rw [updO_ne (fun z => by rw [z, h3] at h; cases h)]; exact h, fun c o h _ _ => by
    by_cases z : c = b
    · subst z; rw [updO_same] at h; cases h
    · rw [updO_ne z] at h; exact h⟩
  refine ⟨_, G1, ρ, π1, RT, Nat.le_succ_of_le hk, Post.imp (Post.chain (o := r ρ π1) (p1.shift ST)) fun vs H2 z => ?_⟩
  obtain ⟨O2, G2, π2, ds, R2, S2, r2, p2⟩ := z
  have o2 := S2.oo b kk updO_same
  have h6 := S2.fr b _ h1 (by rw [updO_same]; exact fun z => by cases z) (fun _ z => by cases z)
  exact p2 _ _ _ _ R2 (Step.refl _ _ _) (.lst o2 h6 (h5.mono S2.sg) r2)⟩
def bindK : List Nat → List KV → Ev → Option Ev
  | [], [], ρ => some ρ
  | i :: is, .dat d :: ks, ρ => bindK is ks (ρ.set i (some (.dat d)))
  | i :: is, .lst xs :: ks, ρ => bindK is ks (ρ.set i (some (.lst xs)))
  | _, _, _ => none
def setVs : List Nat → List V → L2.St → L2.St
  | i :: is, v :: vs, σ => setVs is vs (σ.set i (some v))
  | _, _, σ => σ
theorem rKs.updO {O : Own} {a : Addr} {i k0 : Nat} : ∀ {kk : Nat} {vs : List V} {ks : List KV}, rKs X wd O G H kk vs ks → O a = some (some k0) → k0 < kk → rKs X wd (updO O a (some (some i))) G H kk vs ks
  | _, _, _, .nil, _, _ => .nil
  | _, _, _, .dat h t, h0, hk => .dat h (rKs.updO t h0 (Nat.lt_succ_of_lt hk))
  | _, _, _, .lst h1 h2 h3 t, h0, hk => .lst (by rw [updO_ne (fun z => by rw [z, h0] at h1; cases h1; exact Nat.lt_irrefl _ hk)]; exact h1) h2 h3 (rKs.updO t h0 (Nat.lt_succ_of_lt hk))
theorem RW.bindK {is : List Nat} {kk : Nat} {vs : List V} {ks : List KV} : ∀ {O : Own} {σ : L2.St} {ρ ρ' : Ev}, RW (md X) wd O G σ H ρ π → rKs X wd O G H kk vs ks → ρ.length ≤ kk → DL.bindK is ks ρ = some ρ' → ∃ O', RW (md X) wd O' G (setVs is vs σ) H ρ' π ∧ vs.length = is.length := by
  induction is generalizing kk vs ks with
  | nil =>
    intro O σ ρ ρ' R r hk e
    cases r with
    | nil => cases e; exact ⟨O, R, rfl⟩
    | dat _ _ => cases e
    | lst _ _ _ _ => cases e
  | cons i is ih =>
    intro O σ ρ ρ' R r hk e
    cases r with
    | nil => cases e
    | dat h t =>
      obtain ⟨O', R', l⟩ := ih (R.setDat h) t (by rw [List.length_set]; omega) e
      exact ⟨O', R', congrArg (· + 1) l⟩
    | lst h1 h2 h3 t =>
      have g := R.own _ _ h1
      obtain ⟨O', R', l⟩ := ih (R.setOwn (i := i) h2 g.1 g.2.2 (fun w z => by rw [h1] at z; cases z; exact ⟨_, rfl, hk⟩) h3) (t.updO h1 (Nat.lt_succ_self _)) (by rw [List.length_set]; omega) e
      exact ⟨O', R', congrArg (· + 1) l⟩
def sPar (kk : Nat) (is : List Nat) (w : Ev → EM (List KV)) : SM := fun ρ π => if ρ.length ≤ kk then SO.of ρ (w ρ π) fun ks π' => (match bindK is ks ρ with
  | some ρ' => .nx ρ' π'
  | none => .bad) else .bad
theorem sem_par {kk : Nat} {is : List Nat} {w : Ev → EM (List KV)} {D : Ends} {C : List V → Hp → Prop} {σ : L2.St} {H : Hp} (q : tS X wd W (sPar kk is w) D σ H) (hC : ∀ vs H', vs.length = is.length → D.nx (setVs is vs σ) H' → C vs H') : tK X wd W kk w σ H C := by
  obtain ⟨O, G, ρ, π, R, p⟩ := q
  unfold sPar at p
  split at p
  · next hk =>
    refine ⟨O, G, ρ, π, R, hk, Post.imp (PostS.expr p) fun vs H' z => ?_⟩
    obtain ⟨O', G', π', ks, R', S', r', p'⟩ := z
    have p2 : PostS X wd W G' D (match bindK is ks ρ with
      | some ρ' => .nx ρ' π'
      | none => .bad) := p'
    clear p'
    split at p2
    · next ρ' e =>
      obtain ⟨O2, R2, l⟩ := R'.bindK r' hk e
      exact hC vs H' l (p2.nx R2 (Same.refl _))
    · exact p2.elim
  · exact p.elim
theorem ds_par2 (kk i j : Nat) {x y : Str} {a b : Expr} {w : Ev → EM (List KV)} {px py pt : Pos} {kt k2 pt2} (hc : X.calm = true) (hN : X.N.Nodup) (ha : DKs X wd W kk [a, b] w) (hi : X.N[i]? = some x := by rfl) (hj : X.N[j]? = some y := by rfl) (hij : i ≠ j := by decide)
    (hx : X.env.scope.names.lookup x = some .local := by rfl) (hy : X.env.scope.names.lookup y = some .local := by rfl)
    (hw : swappedStores [.Tuple [.Name x px, .Name y py] kt pt] (.Tuple [a, b] k2 pt2) X.env = pure (some [x, y]) := by rfl)
    (hs : swapsWithSole [.Tuple [.Name x px, .Name y py] kt pt] (.Tuple [a, b] k2 pt2) pos.line X.env = pure false := by rfl) :
    DS X wd W (.Assign [.Tuple [.Name x px, .Name y py] kt pt] (.Tuple [a, b] k2 pt2) pos) (sPar kk [i, j] w) := ⟨ps_imp (ps_par hc hN hi hj hij hx hy ha.pa hw hs) fun D σ H q => sem_par q fun vs H' l h => by
  match vs, l with
  | [v, u], _ => exact ⟨v, u, rfl, h⟩⟩
theorem ds_par3 (kk i j m : Nat) {x y z : Str} {a b c : Expr} {w : Ev → EM (List KV)} {px py pz pt : Pos} {kt k2 pt2} (hc : X.calm = true) (hN : X.N.Nodup) (ha : DKs X wd W kk [a, b, c] w) (hi : X.N[i]? = some x := by rfl) (hj : X.N[j]? = some y := by rfl) (hm : X.N[m]? = some z := by rfl) (hij : i ≠ j := by decide) (him : i ≠ m := by decide) (hjm : j ≠ m := by decide)
    (hx : X.env.scope.names.lookup x = some .local := by rfl) (hy : X.env.scope.names.lookup y = some .local := by rfl) (hz : X.env.scope.names.lookup z = some .local := by rfl)
    (hw : swappedStores [.Tuple [.Name x px, .Name y py, .Name z pz] kt pt] (.Tuple [a, b, c] k2 pt2) X.env = pure (some [x, y, z]) := by rfl)
    (hs : swapsWithSole [.Tuple [.Name x px, .Name y py, .Name z pz] kt pt] (.Tuple [a, b, c] k2 pt2) pos.line X.env = pure false := by rfl) :
    DS X wd W (.Assign [.Tuple [.Name x px, .Name y py, .Name z pz] kt pt] (.Tuple [a, b, c] k2 pt2) pos) (sPar kk [i, j, m] w) := ⟨ps_imp (ps_par3 hc hN hi hj hm hij him hjm hx hy hz ha.pa hw hs) fun D σ H q => sem_par q fun vs H' l h => by
  match vs, l with
  | [v, u, t], _ => exact ⟨v, u, t, rfl, h⟩⟩
end
end DL

/-! frozen lists, empty dicts, caught exceptions told, the root made. -/
namespace DL
open PySem PySem.Spec PyProof.Rows L2
section
variable {X : Cx} {wd : Wd} {W : WS} {O : Own} {G G1 : Hp} {σ : L2.St} {H : Hp} {ρ : Ev} {π : Rt} {Dn : Ends} {pos : Pos}
theorem hx0 : ∀ σ, PassesAt (L2.CX X.prog X.w) X σ (W0 σ) := fun σ pins H s e s' I c => passL pins σ H s e s' I c
theorem hxT {W' : WX} {pn : List (Addr × Obj)} {xe : Value → Shared → Prop} (t : Takes (X.tr pn xe) W') : ∀ σ, PassesAt (L2.CX X.prog X.w) (X.tr pn xe) σ ((fun σ c d H => W' c d σ H : WS) σ) := fun σ => passAt t σ
/-- x, the name's own list, is a plain value from here on -/
def sFrz (i : Nat) (s : SM) : SM := fun ρ π => match ρ[i]? with
  | some (some (.lst xs)) => s (ρ.set i (some (.dat (.lst xs)))) π
  | _ => s ρ π
theorem tS_frz (i : Nat) {s : SM} {D : Ends} {σ : L2.St} {H : Hp} (q : tS X wd W (sFrz i s) D σ H) : tS X wd W s D σ H := by
  obtain ⟨O, G, ρ, π, R, p⟩ := q
  unfold sFrz at p
  split at p
  · next xs h =>
    obtain ⟨a, vs, h1, h2, h3, h4⟩ := R.slot i _ h
    obtain ⟨R', S'⟩ := R.freeze h h1 h2 h3 h4
    exact ⟨_, _, _, π, R', PostS.shift p S'⟩
  · exact ⟨O, G, ρ, π, R, p⟩
theorem ds_frz (i : Nat) {st : Stmt} {s : SM} (h : DS X wd W st s) : DS X wd W st (sFrz i s) := ⟨ps_imp h.ps fun D σ H q => tS_frz i q⟩
theorem de_dict0 : DE X wd W (.Dict [] [] pos) (eC (.dct [])) := ⟨pe_imp pe_dnewK fun σ H Q q => by
  obtain ⟨O, G, ρ, π, R, p⟩ := q
  intro a na
  obtain ⟨R1, S1, g1⟩ := R.allocG (o := .dK []) na (fun _ z => by cases z)
  exact p (.ref a) _ _ _ R1 S1 (.dct g1 .nil)⟩
/-! ### except .. as e -/
def clr (ρ : Ev) : Ev := ρ.map fun x => match x with
  | some (.exn _) => none
  | x => x
def wdX (wd : Wd) (a : Addr) (c : Value) (d : Option Addr) : Wd := { wd with x := some (a, c, d) }
theorem clr_get {ρ : Ev} {i : Nat} {sv : SV} (h : (clr ρ)[i]? = some (some sv)) : ρ[i]? = some (some sv) ∧ ∀ e, sv ≠ .exn e := by
  unfold clr at h
  rw [List.getElem?_map] at h
  obtain ⟨x, h1, h2⟩ := Option.map_eq_some_iff.mp h
  rw [h1]
  match x with
  | none => cases h2
  | some (.exn _) => cases h2
  | some (.dat d) => cases h2; exact ⟨rfl, fun e z => by cases z⟩
  | some (.lst d) => cases h2; exact ⟨rfl, fun e z => by cases z⟩
  | some .root => cases h2; exact ⟨rfl, fun e z => by cases z⟩
theorem clr_len {ρ : Ev} : (clr ρ).length = ρ.length := by unfold clr; rw [List.length_map]
theorem RW.clr {x1 : Option (Addr × Value × Option Addr)} (R : RW (md X) { wd with x := x1 } O G σ H ρ π) {x2 : Option (Addr × Value × Option Addr)} : RW (md X) { wd with x := x2 } O G σ H (DL.clr ρ) π :=
  ⟨R.g0, R.sub, R.new, R.nt, R.keep, R.there, R.jj, R.own, by
    have h := R.root
    cases π with
    | no => exact h
    | lst xs => exact h, R.len.trans clr_len.symm, fun i sv h => by
    obtain ⟨h1, h2⟩ := clr_get h
    have q := R.slot i sv h1
    cases sv with
    | dat d => exact q
    | lst d => exact q
    | root => exact q
    | exn e => exact (h2 e rfl).elim⟩
def outAs (i : Nat) : SO → SO
  | .nx ρ π => .nx ((clr ρ).set i none) π
  | .ret v ρ π => .ret v (clr ρ) π
  | .brk ρ π => .brk ((clr ρ).set i none) π
  | .ct ρ π => .ct ((clr ρ).set i none) π
  | _ => .bad
def sTryAs (i : Nat) (tab : Tab) (u : SM) (s : SM) : SM := fun ρ π => match s ρ π with
  | .exc e ρ' π' => (match tab.lookup e.c with
    | some true => outAs i (u ((clr ρ').set i (some (.exn e))) π')
    | some false => .exc e ρ' π'
    | none => .bad)
  | o => o
theorem ds_tryAs (i : Nat) {x n : Str} {c : Value} {body suite : List Stmt} {b₀ : Stmt} {np pos' : Pos} {tab : Tab} {u s : SM} (hst : X.stack = X.env :: X.outer) (hf : X.env.frame = some X.env.locals) (hN : X.N.Nodup) (hi : X.N[i]? = some n) (hln : X.env.kindOf n = some .local) (hc : Names X x c) (ht : TabOk X c tab) (tk : Takes X (WX_ W))
    (hb : ∀ (W' : WX) (pn : List (Addr × Obj)) (xe : Value → Shared → Prop), Takes (X.tr pn xe) W' → PassesOwn (model X.prog X.w) X.A X.env xe → DSs (X.tr pn xe) wd (fun σ c d H => W' c d σ H) body s)
    (hsu : ∀ (a : Addr) (oe : Obj) (cls : Value) (d : Option Addr) (pn : List (Addr × Obj)), Zc cls d oe → (∃ vs, oe.data = .fields vs) → DSs (X.suite a ((a, oe) :: pn)) (wdX wd a cls d) WN (b₀ :: suite) u) :
    DS X wd W (.Try body [.ExceptHandler (some (.Name x np)) (some n) (b₀ :: suite) pos'] [] [] pos) (sTryAs i tab u s) :=
  ⟨ps_imp (ps_try_as (tb := fun W' => tS X wd (fun σ c d H => W' c d σ H) s) (ts := fun a cls d => tS X (wdX wd a cls d) WN u) hst hf hN hi hln hc tk (fun W' pn xe t po => (hb W' pn xe t po).ps) fun a oe cls d pn z f => (hsu a oe cls d pn z f).ps) fun D σ H q => by
  obtain ⟨O, G, ρ, π, R, p⟩ := q
  refine ⟨O, G, ρ, π, R, ?_⟩
  unfold sTryAs at p
  cases e : s ρ π with
  | exc e' ρ' π' =>
    rw [e] at p
    intro cv dx σ' O' G' H' R' S' rep
    have p : PostS X wd W G D (match tab.lookup e'.c with
      | some true => outAs i (u ((clr ρ').set i (some (.exn e'))) π')
      | some false => .exc e' ρ' π'
      | none => .bad) := p
    obtain ⟨C, rfl, hC, _⟩ := id rep
    cases el : tab.lookup e'.c with
    | none => rw [el] at p; exact p.elim
    | some b =>
      obtain ⟨C1, e1, e2⟩ := ht _ (mem_lookup el)
      have hC : X.mg e'.c = some (.ref C) := hC
      rw [hC] at e1
      cases e1
      rw [el] at p
      refine ⟨b, e2, fun eb a na => ?_, fun eb => ?_⟩
      · subst eb
        have p : PostS X wd W G' D (outAs i (u ((clr ρ').set i (some (.exn e'))) π')) := PostS.shift p S'
        have R1 : RW (md X) (wdX wd a (.ref C) dx) O' G' σ' H' (DL.clr ρ') π' := RW.clr (wd := wd) (x1 := wd.x) R'
        have R2 : RW (md X) (wdX wd a (.ref C) dx) O' G' (σ'.set i (some (.ref a))) H' ((DL.clr ρ').set i (some (.exn e'))) π' := by
          refine R1.slots (by rw [List.length_set, List.length_set]; exact R1.len) fun j sv h => ?_
          by_cases ij : i = j
          · subst ij
            have hl : i < (DL.clr ρ').length := by
              have := (List.getElem?_eq_some_iff.mp h).1
              rwa [List.length_set] at this
            have es := get_set_eq h
            cases es
            exact ⟨a, .ref C, dx, rfl, by rw [List.getElem?_set_self (by rw [R1.len]; exact hl)], rep⟩
          · rw [List.getElem?_set_ne ij] at h
            exact (R1.slot j sv h).set ij
        refine ⟨O', G', _, π', R2, ?_⟩
        have back : ∀ {σ2 : L2.St} {O2 : Own} {G2 H2 : Hp} {ρ2 : Ev} {π2 : Rt}, RW (md X) (wdX wd a (.ref C) dx) O2 G2 σ2 H2 ρ2 π2 → RW (md X) wd O2 G2 σ2 H2 (DL.clr ρ2) π2 := fun R3 => RW.clr (wd := wd) (x2 := wd.x) R3
        cases eu : u ((clr ρ').set i (some (.exn e'))) π' with
        | exc e3 ρ2 π2 => rw [eu] at p; exact p.elim
        | nx ρ2 π2 => rw [eu] at p; exact fun σ2 O2 G2 H2 R3 S3 => p _ _ _ _ (back R3).unset S3
        | ret rv ρ2 π2 => rw [eu] at p; exact fun v σ2 O2 G2 H2 R3 S3 h => p v σ2 O2 G2 H2 (back R3) S3 h
        | brk ρ2 π2 => rw [eu] at p; exact fun σ2 O2 G2 H2 R3 S3 => p _ _ _ _ (back R3).unset S3
        | ct ρ2 π2 => rw [eu] at p; exact fun σ2 O2 G2 H2 R3 S3 => p _ _ _ _ (back R3).unset S3
        | bad => rw [eu] at p; exact p.elim
      · subst eb
        exact p (.ref C) dx σ' O' G' H' R' S' rep
  | nx ρ' π' => rw [e] at p; exact p
  | ret rv ρ' π' => rw [e] at p; exact p
  | brk ρ' π' => rw [e] at p; exact p
  | ct ρ' π' => rw [e] at p; exact p
  | bad => rw [e] at p; exact p⟩
/-- e.f -/
def eXf (i : Nat) (f : Str) (cs : List Str) : Ev → EM D := fun ρ π => match ρ[i]? with
  | some (some (.exn e)) => if cs.contains e.c then (match e.fs.lookup f with
    | some d => .ok d π
    | none => .bad) else .bad
  | _ => .bad
theorem DpF.get {M : Md} {G : Hp} {f : Str} : ∀ {vs : List (Str × V)} {ds : List (Str × D)} {d : D}, DpF M G vs ds → ds.lookup f = some d → ∃ v, vs.lookup f = some v ∧ Dp M G v d
  | _, _, _, .nil, h => by cases h
  | _, _, _, .cons (k := k) (v := v) (d := d') a t, h => by
    rw [List.lookup_cons] at h ⊢
    split at h
    · cases h
      exact ⟨_, rfl, a⟩
    · exact DpF.get t h
def XfT (K : PySem.W.Frag) (mg : Str → Option Value) (cs : List Str) (f : Str) : Prop := ∀ c ∈ cs, ∃ C, mg c = some (.ref C) ∧ XfC K C ∧ PySem.W.findIn K (.ref C) f = some none
theorem de_xf (i : Nat) {a : Addr} {oe : Obj} {cls : Value} {d : Option Addr} {pn : List (Addr × Obj)} {n f : Str} {cs : List Str} {p pos : Pos} {wd : Wd} {W : WS} (T : XfT X.K X.mg cs f) (hx : wd.x = some (a, cls, d)) (hz : Zc cls d oe) (hf : ∃ vs, oe.data = .fields vs) (hN : X.N[i]? = some n) (hv : Vis X.env.scope n := by first | exact Or.inl rfl | exact Or.inr (Or.inl rfl) | exact Or.inr (Or.inr rfl)) (hd : (n == ("__debug__" : Str)) = false := by decide)
    (hcd : (n == ("__classdict__" : Str)) = false := by decide) (hb : attributeBase (.Name n p) f X.env (eval (.Name n p) X.env) = eval (.Name n p) X.env := by rfl) :
    DE (X.suite a ((a, oe) :: pn)) wd W (.Attribute (.Name n p) f pos) (eXf i f cs) := by
  refine ⟨⟨fun pins s σ H Q I q => ?_⟩⟩
  obtain ⟨O, G, ρ, π, R, p⟩ := q
  unfold eXf at p
  split at p
  · next e he =>
    split at p
    · next hc =>
      split at p
      · next dd hl =>
        obtain ⟨a', c', dx, h1, h2, h3⟩ := R.slot i _ he
        rw [hx] at h1
        cases h1
        obtain ⟨C, rfl, hC, h4⟩ := h3
        obtain ⟨C1, g1, g2, g3⟩ := T e.c (List.contains_iff_mem.mp hc)
        have hC : X.mg e.c = some (.ref C) := hC
        rw [hC] at g1
        cases g1
        cases d with
        | none =>
          have h4 : e.fs = [] := h4
          rw [h4] at hl
          cases hl
        | some dp =>
          obtain ⟨fvs, q1, q2⟩ := h4
          obtain ⟨v, r1, r2⟩ := q1.get hl
          refine (pe_xf (X := X) (pn := pn) (pos := pos) g2 g3 hz hf (pe_var (X := X.suite a ((a, oe) :: pn)) (i := i) (pos := _) hN hv hd hcd) hb).run pins s σ H Q I ?_
          refine ⟨.ref a, h2, rfl, rfl, dp, fvs, v, rfl, R.sub _ _ q2, r1, ?_⟩
          exact Post.give p R r2
      · exact p.elim
    · exact p.elim
  · exact p.elim
/-! ### the root is made -/
def sMk (i : Nat) (w : Ev → EM (List D)) (u : SM) : SM := fun ρ π => match π with
  | .no => SO.of ρ (w ρ .no) fun xs π' => (match π' with
    | .no => (match u (ρ.set i (some .root)) (.lst xs) with
      | .ret (.dat d) ρ' (.lst _) => .ret (.dat d) (ρ'.map fun _ => none) .no
      | _ => .bad)
    | .lst _ => .bad)
  | .lst _ => .bad
def wdR (wd : Wd) (a : Addr) : Wd := { wd with r := some a }
theorem dss_mk (i : Nat) {e : Expr} {rest : List Stmt} {w : Ev → EM (List D)} {u : SM} {x : Str} {p : Pos} (hr : wd.r = none) (hN : X.N.Nodup) (he : DF X wd W e w) (hu : ∀ a, DSs X (wdR wd a) W rest u) (hi : X.N[i]? = some x := by rfl) (hx : Loc X.env.scope x := by first | exact Or.inl rfl | exact Or.inr rfl) (hs : swapsWith e (some (.Name x p)) pos.line X.env = pure false := by rfl) (hf : X.fn x = true ∨ X.env.scope.names.lookup x = some .local := by first | exact .inl rfl | exact .inr rfl) :
    DSs X wd W (.Assign [.Name x p] e pos :: rest) (sMk i w u) := by
  have hrest : PSs X rest (fun D σ H => ∃ a, tS X (wdR wd a) W u D σ H) := ⟨fun pins s σ H D I q => by
    obtain ⟨a, q⟩ := q
    exact (hu a).ps.run pins s σ H D I q⟩
  refine ⟨pss_imp (pss_cons (ps_set hN hi hx he.pe hs hf) hrest) fun D σ H q => ?_⟩
  obtain ⟨O, G, ρ, π, R, p⟩ := q
  cases π with
  | lst _ => exact p.elim
  | no =>
  have p : PostS X wd W G D (SO.of ρ (w ρ .no) fun xs π' => (match π' with
    | .no => (match u (ρ.set i (some .root)) (.lst xs) with
      | .ret (.dat d) ρ' (.lst _) => .ret (.dat d) (ρ'.map fun _ => none) .no
      | _ => .bad)
    | .lst _ => .bad)) := p
  refine ⟨O, G, ρ, .no, R, Post.imp (PostS.expr p) fun v H' z => ?_⟩
  obtain ⟨O', G', π', xs, R', S', ⟨b, vs, rfl, h1, h2, h3, h4, h5⟩, p'⟩ := z
  cases π' with
  | lst _ => exact p'.elim
  | no =>
  refine ⟨b, updO O' b (some none), G', ρ.set i (some .root), .lst xs, ?_, ?_⟩
  · refine ⟨R'.g0, R'.sub, R'.new, R'.nt, R'.keep, R'.there, R'.jj, fun c w hc => ?_, ⟨b, vs, rfl, updO_same, h1, h5⟩, by rw [List.length_set, List.length_set]; exact R'.len, fun j sv hj => ?_⟩
    · by_cases cb : c = b
      · subst cb
        rw [updO_same] at hc
        cases hc
        exact ⟨h2, ⟨_, h1, fun z => z⟩, .inr h4⟩
      · rw [updO_ne cb] at hc
        exact R'.own c w hc
    · by_cases ij : i = j
      · subst ij
        have hl : i < ρ.length := by
          have := (List.getElem?_eq_some_iff.mp hj).1
          rwa [List.length_set] at this
        have es := get_set_eq hj
        cases es
        exact ⟨b, rfl, by rw [List.getElem?_set_self (by rw [R'.len]; exact hl)]⟩
      · rw [List.getElem?_set_ne ij] at hj
        have q := R'.slot j sv hj
        have q2 : SlotRep (md X) (wdR wd b) (updO O' b (some none)) G' H' σ j sv := by
          cases sv with
          | dat d => exact q
          | lst ys =>
            obtain ⟨a2, vs2, k1, k2, k3, k4⟩ := q
            exact ⟨a2, vs2, k1, by rw [updO_ne (fun z => by subst z; rw [h3] at k2; cases k2)]; exact k2, k3, k4⟩
          | root =>
            obtain ⟨a2, k1, _⟩ := q
            rw [hr] at k1
            cases k1
          | exn e => exact q
        exact q2.set ij
  · revert p'
    show PostS X wd W G' D (match u (ρ.set i (some .root)) (.lst xs) with
      | .ret (.dat d) ρ' (.lst _) => .ret (.dat d) (ρ'.map fun _ => none) .no
      | _ => .bad) → _
    cases u (ρ.set i (some .root)) (.lst xs) with
    | ret rv ρ2 π2 =>
      cases rv with
      | lst _ => exact fun z => z.elim
      | dat d =>
        cases π2 with
        | no => exact fun z => z.elim
        | lst ys =>
          intro z v σ2 O2 G2 H2 R2 S2 hv
          refine z v σ2 (updO O2 b none) G2 H2 ⟨R2.g0, R2.sub, R2.new, R2.nt, R2.keep, R2.there, R2.jj, fun c w hc => ?_, hr, R2.len.trans (by rw [List.length_map]), fun j sv hj => ?_⟩ S2 hv
          · by_cases cb : c = b
            · subst cb
              rw [updO_same] at hc
              cases hc
            · rw [updO_ne cb] at hc
              exact R2.own c w hc
          · rw [List.getElem?_map] at hj
            obtain ⟨_, _, hj⟩ := Option.map_eq_some_iff.mp hj
            cases hj
    | nx _ _ => exact fun z => z.elim
    | brk _ _ => exact fun z => z.elim
    | ct _ _ => exact fun z => z.elim
    | exc _ _ _ => exact fun z => z.elim
    | bad => exact fun z => z.elim
end
end DL

/-! a lambda handed to the def that tells by which name a call is refused. -/
namespace DL
open PySem PySem.Spec PyProof.Rows L2 LamX
/-- what the clauses «except x: return name == "y"» make of an exception -/
def wN (K : PySem.W.Frag) (z : Str) (Q : VK) : List (Value × Str) → XK
  | [] => fun _ _ _ => False
  | (c, nm) :: r => fun cls d H => ∃ b, PySem.W.exmOne K cls c = some b ∧ (b = true → Q (.bl (decide (z = nm))) H) ∧ (b = false → wN K z Q r cls d H)
def tsN (z nm : Str) : Addr → Value → Option Addr → TS := fun _ _ _ D σ H => σ[1]? = some (some (.str z)) ∧ D.rt (.bl (decide (z = nm))) H
inductive RH (sg : Scope) (mg : Str → Option Value) (nN : Str) : List ExceptHandler → List (Value × Str) → Prop
  | nil : RH sg mg nN [] []
  | cons {x nm : Str} {c : Value} {np n2 p3 p4 p5 pos' : Pos} {j : Nat} {hds : List ExceptHandler} {l : List (Value × Str)} (hg : sg.names.lookup x = some .globalImplicit) (hd : (x == ("__debug__" : Str)) = false) (hm : mg x = some c) (r : RH sg mg nN hds l) :
      RH sg mg nN (.ExceptHandler (some (.Name x np)) none [.Return (some (.Compare (.Name nN n2) [.Eq] [.Constant (.str nm) j p3] p4)) p5] pos' :: hds) ((c, nm) :: l)
section
variable {X : Cx} {Ng : List Str} {x a nN q : Str} {sg : Scope} {g : Addr} {cdg : Value} {hds : List ExceptHandler} {l : List (Value × Str)}
abbrev Zc_ (X : Cx) (Ng : List Str) (x : Str) (sg : Scope) (g : Addr) (cdg : Value) (s : Shared) (H : Hp) : Cx := cxOf C8.CX0 X.prog X.w X.K X.mg X.base Ng x sg g cdg X.A X.stack s H C8.E0
theorem RH.ok {s : Shared} {H : Hp} {z : Str} (h : RH sg X.mg nN hds l) (hN : Ng[1]? = some nN) (hv : Vis sg nN) (hd : (nN == ("__debug__" : Str)) = false) (hcd : (nN == ("__classdict__" : Str)) = false) :
    HdsOk (Zc_ X Ng x sg g cdg s H).nox hds (l.map fun p => (p.1, tsN z p.2)) := by
  induction h with
  | nil => exact .nil
  | @cons x' nm c np n2 p3 p4 p5 pos' j hds l hg hd' hm r ih =>
    refine .cons ⟨hg, hd', .inl hm⟩ (fun a oe cls d pn hz hf => ?_) ih
    refine pss_imp (pss_one (ps_ret (pe_cmpR op_eq (pe_var (i := 1) hN hv hd hcd) pe_str (nomark _)))) fun D σ H q => ?_
    obtain ⟨q1, q2⟩ := q
    refine ⟨_, q1, rfl, ?_⟩
    have e : decide (V.str z = V.str nm) = decide (z = nm) := by
      by_cases h : z = nm
      · subst h; simp
      · rw [decide_eq_false h, decide_eq_false (fun z => h (V.str.inj z))]
    rw [e]
    exact q2
theorem wMany_N {K : PySem.W.Frag} {z : Str} {D : Ends} : ∀ {l : List (Value × Str)} {cls : Value} {d : Option Addr} {σ : L2.St} {H : Hp}, σ[1]? = some (some (.str z)) → wN K z D.rt l cls d H → wMany K (fun _ _ _ _ => False) D (l.map fun p => (p.1, tsN z p.2)) cls d σ H
  | [], _, _, _, _, _, h => h.elim
  | _ :: _, _, _, _, _, hs, h => by
    obtain ⟨b, h1, h2, h3⟩ := h
    exact ⟨b, h1, fun e _ _ => ⟨hs, h2 e⟩, fun e => wMany_N hs (h3 e)⟩

theorem act_at {pins : List (Addr × Obj)} {σ : L2.St} {H : Hp} {s : Shared} {f c' : Addr} {pm ctv : Value} {prs : Arguments} {body : Expr} {scope : Scope} {k : Nat} {pn : List (Addr × Obj)} {xe : Value → Shared → Prop} {W : WX} {tb : XK → TE} {p1 p2 : Pos}
    (I : Inv X pins σ H s) (L : LamS X.env.scope scope) (hf : s.heap.get? f = some (PySem.W.kla_obj "<lambda>" (X.env.qual ++ "<lambda>") prs body scope (cloFrom X.env.cells scope.names []) pm c' ctv)) (hfn : H f = none) (hfr : f ∉ frs X.stack)
    (hb0 : bindArgs (PySem.W.kla_fn "<lambda>" (X.env.qual ++ "<lambda>") prs body scope (cloFrom X.env.cells scope.names []) pm (.ref c') ctv) ⟨[], []⟩ = pure [])
    (tk : Takes ((Zc_ X Ng x sg g cdg s H).tr pn xe) W) (hr : Room (k + 1) (X.A.deeper (envOfC x sg s.heap.objs.size g cdg)))
    (hbody : ∀ (A1 : Around) (ou : List Env) (s1 : Shared) (H1 : Hp) (E1 : XK), Room k (A1.deeper (lamEnv X scope s1.heap.objs.size f c')) → PE (lamCx X A1 ou s1 H1 E1 scope f c') body (tb E1))
    (hN : Ng[0]? = some a) (hv : Vis sg a) (hd : (a == ("__debug__" : Str)) = false) (hcd : (a == ("__classdict__" : Str)) = false) :
    PE ((Zc_ X Ng x sg g cdg s H).tr pn xe) (.Call (.Name a p1) [] [] p2) (fun σZ HZ Q => σZ[0]? = some (some (.ref f)) ∧ HZ c' = some (CodeO c' (X.env.qual ++ "<lambda>")) ∧ tb (WE W σZ) σ HZ Q) := by
  constructor
  rintro pinsZ sZ σZ HZ Q IZ ⟨hs, hc, ht⟩
  have rdA := (pe_var (X := (Zc_ X Ng x sg g cdg s H).tr pn xe) (pos := p1) (i := 0) hN hv hd hcd).run pinsZ sZ σZ HZ (fun v H1 => v = .ref f ∧ H1 = HZ) IZ ⟨.ref f, hs, rfl, rfl⟩
  refine wpAny_Call_Name_kw (thn rdA fun u s1 z => ?_)
  obtain ⟨_, H9, I1, r1, rfl, eH⟩ := z
  subst eH
  obtain rfl : u = Value.ref f := r1
  have obF := I1.base.keep f _ hf hfn hfr (fun z => nomatch (show f ∈ ([] : List Addr) from z))
  refine PySem.W.callWith_F0 ⟨_, _, _, _, obF⟩ ?_
  have grown : Un (frs X.stack) [] H H9 s.heap s1.heap := I1.base
  obtain ⟨⟨oc, us, t, hoc, hdc, hvc⟩, _, _⟩ := I1.hok c' _ hc
  have ran : codeAny (model X.prog X.w) (X.A.deeper (envOfC x sg s.heap.objs.size g cdg)) (.call (.ref f) ⟨[], []⟩) (CR (L2.CX X.prog X.w) (envOfC x sg s.heap.objs.size g cdg :: X.stack) X.prog X.w H9 s1 Q (WE W σZ)) s1 := by
    refine PySem.W.kla_callFunE hr.depth obF rfl L.co L.gen rfl ⟨c', oc, us, t, rfl, hoc, hdc, hvc⟩ (by
      rw [hb0]
      refine wpAny_pure (wpAny_newFunctionEnv (fun y hy => (L.own y hy).2) (fun y hy => nomatch hy) (fun h₁ hns hsb => ⟨I1.nolimit.fresh _ hsb, ?_⟩) L.kind)
      have stays : ∀ b o, s1.heap.get? b = some o → h₁.get? b = some o := fun b o e => hsb.extBut b o (Nat.ne_of_lt (Heap.lt_size e)) (Heap.get?_push_of_some _ e)
      have J := lam_start2 (E := WE W σZ) (f := f) (c' := c') (tk := s1.toks + ([] : List (Str × Value)).length) I L I1.env0 hr.hd grown hns stays
      refine PySem.W.kla_codeExpr (wpAny_mono ((hbody _ _ s1 H9 _ (hr.deeper _)).run [] _ _ H9 Q J ht) (fun v s' hq => ?_) fun e s' hq => hq)
      obtain ⟨w', H', J', rv, q⟩ := hq
      exact ⟨w', H', J'.os, J'.bare, J'.base, J'.hok, rv, q⟩)
  have out := passAt tk σZ
  refine wpAny_call (codeAny_mono ran fun r s' hq => ?_)
  match r, hq with
  | .error e, hq => exact out pinsZ H9 s1 e s' I1 hq
  | .ok (.ret u), hq => exact I1.after hq
  | .ok .next, hq => exact hq.elim
  | .ok .brk, hq => exact hq.elim
  | .ok .cont, hq => exact hq.elim
def TTn (K : PySem.W.Frag) (z : Str) (l : List (Value × Str)) : (XK → Hp → VK → Prop) → Hp → VK → Prop := fun tl H Q => tl (wN K z Q l) H fun _ H' => Q (.bl false) H'
/-- the def's body -/
theorem raises_gives {f c' : Addr} {s : Shared} {H : Hp} {Q : VK} {z : Str} {tl : XK → Hp → VK → Prop} {h₀ : ExceptHandler} {p1 p2 p3 p4 p5 p6 : Pos} {j : Nat}
    (hR : RH sg X.mg nN (h₀ :: hds) l) (hN : Ng[1]? = some nN) (hv : Vis sg nN) (hd : (nN == ("__debug__" : Str)) = false) (hcd : (nN == ("__classdict__" : Str)) = false)
    (h0 : (L2.start Ng [V.ref f, V.str z])[0]? = some (some (V.ref f))) (h1 : (L2.start Ng [V.ref f, V.str z])[1]? = some (some (V.str z)))
    (act : ∀ (W : WX) (pn : List (Addr × Obj)) (xe : Value → Shared → Prop) (p1 p2 : Pos), Takes ((Zc_ X Ng x sg g cdg s H).tr pn xe) W →
      PE ((Zc_ X Ng x sg g cdg s H).tr pn xe) (.Call (.Name a p1) [] [] p2) (fun σZ HZ Q => σZ[0]? = some (some (.ref f)) ∧ HZ c' = some (CodeO c' q) ∧ tl (WE W σZ) HZ Q))
    (mono : ∀ (E E' : XK) (H : Hp) (Q : VK), (∀ c d H, E c d H → E' c d H) → tl E H Q → tl E' H Q)
    (hc : H c' = some (CodeO c' q)) (h : TTn X.K z l tl H Q) (hsw : swapsWith (.Call (.Name a p1) [] [] p2) none p3.line (Zc_ X Ng x sg g cdg s H).env = pure false) :
    ∃ t, PSs (Zc_ X Ng x sg g cdg s H).nox [.Try [.Expr (.Call (.Name a p1) [] [] p2) p3] (h₀ :: hds) [] [] p4, .Return (some (.Constant (.bool false) j p5)) p6] t ∧ t { nx := fun _ H' => Q .non H', rt := Q } (L2.start Ng [.ref f, .str z]) H := by
  refine ⟨_, pss_cons (ps_try_many (X := (Zc_ X Ng x sg g cdg s H).nox) (l := l.map fun p => (p.1, tsN z p.2))
      (tb := fun W D σ H => σ[0]? = some (some (.ref f)) ∧ H c' = some (CodeO c' q) ∧ tl (WE W σ) H fun _ H' => D.nx σ H')
      rfl rfl LamX.takes0 (fun W pn xe tk _ => ?_) (hR.ok hN hv hd hcd)) (pss_one (ps_ret pe_bl)), ?_⟩
  · refine ⟨fun pins s' σ H' D I h' => ?_⟩
    obtain ⟨k1, k2, k3⟩ := h'
    exact (pss_one (ps_expr (pos := p3) (act W pn xe p1 p2 tk) hsw)).run pins s' σ H' D I ⟨k1, k2, k3⟩
  · refine ⟨h0, hc, ?_⟩
    exact mono _ _ _ _ (fun cls d H' h' => wMany_N (D := { nx := _, rt := Q }) h1 h') h

def hR : List (Tab × Str) → Exn → Option Str
  | [], _ => none
  | (tab, nm) :: r, e => match tab.lookup e.c with
    | some true => some nm
    | some false => hR r e
    | none => none
inductive TabsR (X : Cx) : List (Value × Str) → List (Tab × Str) → Prop
  | nil : TabsR X [] []
  | cons {c : Value} {tab : Tab} {nm : Str} {l : List (Value × Str)} {hs : List (Tab × Str)} (h : TabOk X c tab) (r : TabsR X l hs) : TabsR X ((c, nm) :: l) ((tab, nm) :: hs)
def eRaises (hs : List (Tab × Str)) (z : Str) (w : Ev → EM D) : Ev → EM D := fun ρ π => match w ρ π with
  | .ok _ π' => .ok (.bl false) π'
  | .exc e π' => (match hR hs e with
    | some nm => .ok (.bl (decide (z = nm))) π'
    | none => .bad)
  | .bad => .bad
/-- the world of a frame in which lambdas are made -/
structure LamW (T : List (Addr × Str)) (wd : Wd) : Prop where
  h0 : ∀ b, wd.H0 b = none
  tb : wd.tb = true
  j : wd.J = Tabs T
theorem RW.extN {T : List (Addr × Str)} {wd : Wd} {O : Own} {G : Hp} {σ : L2.St} {H H1 : Hp} {ρ : Ev} {π : Rt} (R : RW (md X) wd O G σ H ρ π) (L : LamW T wd) (e : ExtN H H1) (t : Tabs T H1) : RW (md X) wd O G σ H1 ρ π ∧ Step O G H O G H1 := by
  have eo : ∀ b w o, O b = some w → H b = some o → H1 b = some o := fun b w o h1 h2 => by
    obtain ⟨_, ⟨u, k1, k2⟩, _⟩ := R.own b w h1
    rw [h2] at k1
    cases k1
    exact e b o h2 fun ps z => by subst z; exact k2 True.intro
  refine ⟨⟨R.g0, fun b o h => e b o (R.sub b o h) (fun ps z => by subst z; exact R.nt b ps h), R.new, R.nt, fun b o _ _ h => (by rw [L.h0 b] at h; cases h), fun b h => absurd (L.h0 b) h, (by rw [L.j]; exact t), fun b w h => ?_, R.root.mono (Same.refl _) fun b o h1 h2 => eo b _ o h2 h1, R.len, fun i sv h => (R.slot i sv h).mono (Same.refl _) fun b o h1 h2 => ⟨eo b _ o h2 h1, h2⟩⟩,
    ⟨Same.refl _, fun b o h _ n => e b o h n, fun _ _ h => h, fun _ _ h _ _ => h⟩⟩
  obtain ⟨k1, ⟨o, k2, k3⟩, k4⟩ := R.own b w h
  exact ⟨k1, ⟨o, eo b w o h k2, k3⟩, k4⟩
theorem Post.wN {wd : Wd} {O : Own} {G : Hp} {σ : L2.St} {H : Hp} {ρ : Ev} {Q : VK} {z : Str} {e : Exn} {π : Rt} {cl : Value} {dx : Option Addr} {O' : Own} {G' H' : Hp} {W : WS} (R : RW (md X) wd O' G' σ H' ρ π) (S : Step O G H O' G' H') (rep : ExRep (md X) G' cl dx e) : ∀ {l : List (Value × Str)} {hs : List (Tab × Str)}, TabsR X l hs →
    Post X wd W (rD X) O G σ H ρ Q (match hR hs e with
      | some nm => .ok (.bl (decide (z = nm))) π
      | none => .bad) → DL.wN X.K z Q l cl dx H'
  | _, _, .nil, p => p.elim
  | _, _, .cons (tab := tab) (nm := nm) (hs := hs) h r, p => by
    obtain ⟨C, rfl, hC, _⟩ := id rep
    unfold hR at p
    cases el : tab.lookup e.c with
    | none => rw [el] at p; exact p.elim
    | some b =>
      obtain ⟨C1, e1, e2⟩ := h _ (mem_lookup el)
      have hC : X.mg e.c = some (.ref C) := hC
      rw [hC] at e1
      cases e1
      rw [el] at p
      refine ⟨b, e2, fun eb => ?_, fun eb => ?_⟩
      · subst eb
        exact p _ _ _ _ R S (.bl _)
      · subst eb
        exact Post.wN R S rep r p
theorem de_raises {T : List (Addr × Str)} {wd : Wd} {W : WS} {st : Stmt} {fd : FuncData} {c P : Addr} {k : Nat} {prs : Arguments} {body : Expr} {scope : Scope} {z : Str} {jz : Nat} {pz p lpos pos : Pos} {h₀ : ExceptHandler} {hs : List (Tab × Str)} {p1 p2 p3 p4 p5 p6 : Pos} {j : Nat} {w : Ev → EM D}
    (LW : LamW T wd) (Fu : Fun X.K x x st g fd) (hm : X.mg x = some (.ref g)) (hbi : L2.Binds X.K fd [a, nN] []) (Sg : FnScope [a, nN] [a, nN] (defScope st)) (hbd : defBody st = [.Try [.Expr (.Call (.Name a p1) [] [] p2) p3] (h₀ :: hds) [] [] p4, .Return (some (.Constant (.bool false) j p5)) p6])
    (hR' : RH (defScope st) X.mg nN (h₀ :: hds) l) (hT : TabsR X l hs) (TB : TabB X.base X.mg c P) (hcode : X.env.code = .ref c) (hmT : (P, X.env.qual ++ "<lambda>") ∈ T) (hu : ∀ p ∈ T, p.1 = P → p.2 = X.env.qual ++ "<lambda>")
    (hr : Room (k + 2) X.A) (hg : Gl X x) (L : LamS X.env.scope scope) (hw : ∀ (A1 : Around) (ou : List Env) (s1 : Shared) (H1 : Hp) (E1 : XK) (f c' : Addr), Room k (A1.deeper (lamEnv X scope s1.heap.objs.size f c')) → DE (lamCx X A1 ou s1 H1 E1 scope f c') wd (fun _ => E1) body w)
    (hv : Vis (defScope st) a) (hvn : Vis (defScope st) nN) (hd : (a == ("__debug__" : Str)) = false) (hcd : (a == ("__classdict__" : Str)) = false) (hd2 : (nN == ("__debug__" : Str)) = false) (hcd2 : (nN == ("__classdict__" : Str)) = false)
    (hdef : defaultsOf prs X.env = ([], []) := by rfl) (hb0 : ∀ (q : Str) (cl : List (Str × Addr)) (pm cv ctv : Value), bindArgs (PySem.W.kla_fn "<lambda>" q prs body scope cl pm cv ctv) ⟨[], []⟩ = pure [] := by intros; rfl) (hdb : (x == ("__debug__" : Str)) = false := by decide)
    (hsw : ∀ (cd : Value) (n : Nat), swapsWith (.Call (.Name a p1) [] [] p2) none p3.line (envOfC x (defScope st) n g cd) = pure false := by intros; rfl) :
    DE X wd W (.Call (.Name x p) [.Lambda prs body scope lpos, .Constant (.str z) jz pz] [] pos) (eRaises hs z w) := by
  refine ⟨⟨fun pins s σ H Q I q => ?_⟩⟩
  obtain ⟨O, G, ρ, π, R, pp⟩ := q
  have hTH : Tabs T H := by
    have := R.jj
    rw [LW.j] at this
    exact this
  refine wpAny_Call_Name_kw (ld_glob I hg hm ?_ hdb)
  refine PySem.W.callWith_K (h₀ := X.base) I.ok.mod.kin Fu.kp ?_ (by rfl) (by rfl)
  show wpAny _ _ (spliced [(false, eval (.Lambda prs body scope lpos) X.env), (false, eval (.Constant (.str z) jz pz) X.env)]) _ _ s
  refine Calls.spliced_cons (lam_make2 I TB hcode hmT hu hTH hdef (L.has I.ok) fun f c' pm' ctv H1 s' I1 eN T1 hf hfn hfr hco => ?_)
  refine Calls.spliced_cons (Calls.Constant_str (Calls.spliced_nil ⟨(I1.tok 1).kIn, ?_⟩))
  have I2 : Inv X pins σ H1 { s' with toks := s'.toks + 1 } := I1.tok _
  have ran : codeAny (model X.prog X.w) X.A (.call (.ref g) ⟨[.ref f, .str z s'.toks], []⟩) (CR C8.CX0 X.stack X.prog X.w H1 { s' with toks := s'.toks + 1 } Q C8.E0) { s' with toks := s'.toks + 1 } := by
    obtain ⟨oc, od, kV, doc, pm, an, cdv, ct, osl, efd, lk, hcd0⟩ := Fu.ex
    subst efd
    refine run_ofS (N := [a, nN]) (ps := [a, nN]) (us := [.ref f, .str z s'.toks]) (vs := [.ref f, .str z]) lk hcd0 Sg hr I2.env0 (hbi _ _ I2.kIn rfl) (.cons rfl (.cons ⟨_, rfl⟩ .nil)) rfl fun hr' => ?_
    rw [hbd]
    have R1 := R.extN LW eN T1
    have hmono : ∀ (E E' : XK) (H : Hp) (Q : VK), (∀ c d H, E c d H → E' c d H) → tG X wd (fun _ => E) (rD X) w σ H Q → tG X wd (fun _ => E') (rD X) w σ H Q := fun E E' H Q hE h => by
      obtain ⟨O, G, ρ, π, R, p⟩ := h
      refine ⟨O, G, ρ, π, R, ?_⟩
      cases ew : w ρ π with
      | ok d π' => rw [ew] at p; exact p
      | bad => rw [ew] at p; exact p
      | exc e π' => rw [ew] at p; exact fun c dx O' G' H' R' S' rep => hE _ _ _ (p c dx O' G' H' R' S' rep)
    have hTT : TTn X.K z l (fun E H' Q' => tG X wd (fun _ => E) (rD X) w σ H' Q') H1 Q := by
      refine ⟨O, G, ρ, π, R1.1, ?_⟩
      have pp := pp.shift R1.2
      unfold eRaises at pp
      cases ew : w ρ π with
      | ok d π' => rw [ew] at pp; exact fun b O' G' H' R' S' _ => pp _ _ _ _ R' S' (.bl _)
      | bad => rw [ew] at pp; exact pp.elim
      | exc e π' => rw [ew] at pp; exact fun c dx O' G' H' R' S' rep => Post.wN R' S' rep hT pp
    obtain ⟨t', ht', hq'⟩ := raises_gives (X := X) (Ng := [a, nN]) (x := x) (a := a) (nN := nN) (q := X.env.qual ++ "<lambda>") (sg := defScope st) (g := g) (cdg := cdv) (f := f) (c' := c') (s := { s' with toks := s'.toks + 1 }) (H := H1) (Q := Q) (z := z)
      (tl := fun E H' Q' => tG X wd (fun _ => E) (rD X) w σ H' Q') (p1 := p1) (p2 := p2) (p3 := p3) (p4 := p4) (p5 := p5) (p6 := p6) (j := j) hR' rfl hvn hd2 hcd2 rfl rfl
      (fun W pn xe q1 q2 tk => act_at (tb := fun E => tG X wd (fun _ => E) (rD X) w) I2 L hf hfn hfr (hb0 _ _ _ _ _) tk hr' (fun A1 ou s1 H1 E1 hr2 => (hw A1 ou s1 H1 E1 f c' hr2).pe) rfl hv hd hcd)
      hmono hco hTT (hsw _ _)
    exact ⟨t', ht'.nox, hq'⟩
  refine wpAny_call (codeAny_mono ran fun r s2 hq => ?_)
  match r, hq with
  | .error e, hq => exact (show False from hq).elim
  | .ok (.ret u), hq => exact I2.after hq
  | .ok .next, hq => exact hq.elim
  | .ok .brk, hq => exact hq.elim
  | .ok .cont, hq => exact hq.elim
end
end DL

/-! what the printed walks lean on. -/
namespace DL
open PySem PySem.Spec PyProof.Rows L2 LamX
section
variable {P : Program} {w : World} {K : PySem.W.Frag} {mg : Str → Option Value} {base : Heap}
theorem funOf {x q : Str} {st : Stmt} {f : Addr} {fd : FuncData} (h : FunD K x q (defArgs st) (defBody st) (defScope st) [] [] f fd) : Fun K x q st f fd := by
  obtain ⟨⟨oc, od, dV, kV, doc, pm, an, cdv, ct, osl, h1, h2, h3, h4, h5⟩, kp⟩ := h
  rcases h4 with ⟨_, rfl⟩ | ⟨z, _⟩
  · exact ⟨⟨oc, od, kV, doc, pm, an, cdv, ct, osl, h1, h2, h3⟩, kp⟩
  · exact (z rfl).elim
/-- the built-ins that the texts name -/
structure Bl (mg : Str → Option Value) : Prop where
  len : mg "len" = none
  abs : mg "abs" = none
  int : mg "int" = none
  str : mg "str" = none
  bool : mg "bool" = none
  dict : mg "dict" = none
  all : mg "all" = none
  any : mg "any" = none
  sum : mg "sum" = none
  max : mg "max" = none
  min : mg "min" = none
  tuple : mg "tuple" = none
  list : mg "list" = none
  isinstance : mg "isinstance" = none
  range : mg "range" = none
  sorted : mg "sorted" = none
  enumerate : mg "enumerate" = none
  zip : mg "zip" = none
  reversed : mg "reversed" = none
  set : mg "set" = none
def blNames : List Str := ["len", "abs", "int", "str", "bool", "dict", "all", "any", "sum", "max", "min", "tuple", "list", "isinstance", "range", "sorted", "enumerate", "zip", "reversed", "set"]
theorem Bl.of (h : ∀ x ∈ blNames, mg x = none) : Bl mg :=
  ⟨h _ (by decide +kernel), h _ (by decide +kernel), h _ (by decide +kernel), h _ (by decide +kernel), h _ (by decide +kernel), h _ (by decide +kernel), h _ (by decide +kernel), h _ (by decide +kernel), h _ (by decide +kernel), h _ (by decide +kernel),
   h _ (by decide +kernel), h _ (by decide +kernel), h _ (by decide +kernel), h _ (by decide +kernel), h _ (by decide +kernel), h _ (by decide +kernel), h _ (by decide +kernel), h _ (by decide +kernel), h _ (by decide +kernel), h _ (by decide +kernel)⟩
/-- a name of the module that holds d -/
def Gc (K : PySem.W.Frag) (mg : Str → Option Value) (x : Str) (d : D) : Prop := ∃ v u, mg x = some u ∧ RelV v u ∧ ∀ G, Dp ⟨K, mg⟩ G v d
theorem gc_int {x : Str} {i : Int} (h : ∃ t, mg x = some (.int i t)) : Gc K mg x (.int i) := by
  obtain ⟨t, h⟩ := h
  exact ⟨.int i, _, h, ⟨t, rfl⟩, fun _ => .int i⟩
theorem gc_str {x z : Str} (h : ∃ t, mg x = some (.str z t)) : Gc K mg x (.str z) := by
  obtain ⟨t, h⟩ := h
  exact ⟨.str z, _, h, ⟨t, rfl⟩, fun _ => .str z⟩
theorem gc_tup {x : Str} {vs : List He.Dv} {ds : List D} (h : mg x = some (.ref (He.ga K x))) (hb : He.tupB K x vs = true) (hd : ∀ G, DpAll ⟨K, mg⟩ G (vs.map (He.Dv.v K)) ds) : Gc K mg x (.tup ds) := by
  refine ⟨.ref (He.ga K x), _, h, rfl, fun G => .tup (.inr ?_) (hd G)⟩
  rcases He.tupB_ok hb (fun _ => none) with z | z
  · rcases z with z | ⟨_, z⟩ <;> cases z
  · exact z
end
section
variable {X : Cx} {wd : Wd} {W : WS}
theorem de_gc {x : Str} {d : D} {pos : Pos} (h : Gc X.K X.mg x d) (hg : Gl X x) (hdb : (x == ("__debug__" : Str)) = false := by decide) : DE X wd W (.Name x pos) (eC d) := by
  obtain ⟨v, u, h1, h2, h3⟩ := h
  exact de_glob hg h1 h2 h3 hdb
end
section
variable {P : Program} {w : World} {K : PySem.W.Frag} {mg : Str → Option Value} {base : Heap} {N : List Str} {q : Str} {sc : Scope} {f : Addr} {cdv : Value} {A : Around} {outer : List Env} {sh : Shared} {H : Hp} {E : XK}
theorem hxF : ∀ σ, PassesAt (L2.CX P w) (cxOf (L2.CX P w) P w K mg base N q sc f cdv A outer sh H E) σ ((fun _ => E : WS) σ) := fun σ => passAt (takes_of rfl rfl rfl rfl) σ
theorem tkF : Takes (cxOf (L2.CX P w) P w K mg base N q sc f cdv A outer sh H E) (WX_ (fun _ => E)) := takes_of rfl rfl rfl rfl
theorem poF : PassesOwn (model P w) (cxOf (L2.CX P w) P w K mg base N q sc f cdv A outer sh H E).A (cxOf (L2.CX P w) P w K mg base N q sc f cdv A outer sh H E).env (cxOf (L2.CX P w) P w K mg base N q sc f cdv A outer sh H E).xe := passes_of rfl
theorem hxL {X : Cx} {s : Shared} {scope : Scope} {c' : Addr} : ∀ σ, PassesAt (L2.CX (lamCx X A outer s H E scope f c').prog (lamCx X A outer s H E scope f c').w) (lamCx X A outer s H E scope f c') σ ((fun _ => E : WS) σ) := fun σ => passAt (takes_of rfl rfl rfl rfl) σ
theorem Room.u65 {k : Nat} {A : Around} (r : Room k A) : A.units + 65 < cLine := by have := r.un; omega
theorem ds_bad {X : Cx} {wd : Wd} {W : WS} {b : List Stmt} : DSs X wd W b (fun _ _ => .bad) := ⟨⟨fun pins s σ H D I q => by
  obtain ⟨O, G, ρ, π, R, p⟩ := q
  exact p.elim⟩⟩
end
section
variable {P : Program} {w : World} {K : PySem.W.Frag} {mg : Str → Option Value} {base : Heap}
theorem fnG_bad {x : Str} {st : Stmt} {f : Addr} {fd : FuncData} {N ps : List Str} {k : Nat} {rt : Option Nat} (Fu : Fun K x x st f fd) (hmg : mg x = some (.ref f)) (hb : Binds K fd ps []) (S : FnScope N ps (defScope st)) : FnG P w K mg base x (k + 1) rt ps.length (fun _ _ => .bad) := by
  have hm : N.length = ps.length + (N.length - ps.length) := by
    have := congrArg List.length S.pre
    rw [List.length_take] at this
    omega
  exact (fnG_mk (rt := rt) (s := fun _ _ => .bad) Fu hmg hb S hm fun _ _ _ _ _ _ _ _ => ds_bad).imp fun ds π h => (h rfl).elim
/-- the law's promise -/
def spLaw (P : Addr) (q : Str) : Sp := fun vs H Q _ => ∃ (a : Addr) (ns : List Int), vs = [.ref a] ∧ SqL K H a (ns.map V.int) ∧ H P = some (.tbl #[]) ∧ ns.length ≤ 63 ∧ (∀ z ∈ ns, Builtin.Int.intBits z ≤ 1048576) ∧ ∀ H', Q (.bl true) H'
theorem tabs_one {H : Hp} {P : Addr} {q : Str} (h : H P = some (.tbl #[])) : Tabs [(P, q)] H := fun p hp => by
  cases List.mem_singleton.mp hp
  exact TabS.nil h
theorem tabs_jst {T : List (Addr × Str)} : ∀ H H', Tabs T H → (∀ b o, H b = some o → Fixed o → H' b = some o) → Tabs T H' := fun H H' t e p hp => by
  obtain ⟨ps, a1, a2, a3⟩ := t p hp
  refine ⟨ps, e _ _ a1 True.intro, a2, fun pos cv hcv => ?_⟩
  obtain ⟨c0, e1, e2⟩ := a3 pos cv hcv
  exact ⟨c0, e1, e _ _ e2 True.intro⟩
def lawWd (T : List (Addr × Str)) (G : Hp) : Wd := ⟨fun _ => none, G, fun _ => False, Tabs T, true, none, none, tabs_jst⟩
theorem lawWd_lam {T : List (Addr × Str)} {G : Hp} : LamW T (lawWd T G) := ⟨fun _ => rfl, rfl, rfl⟩
theorem LamW.r {T : List (Addr × Str)} {wd : Wd} (h : LamW T wd) {a : Addr} : LamW T (wdR wd a) := ⟨h.h0, h.tb, h.j⟩
theorem dpAll_ints {M : Md} {G : Hp} : ∀ ns : List Int, DpAll M G (ns.map V.int) (ns.map D.int)
  | [] => .nil
  | i :: r => .cons (.int i) (dpAll_ints r)
theorem law_mk {x q : Str} {st : Stmt} {f : Addr} {oc : Value} {od : Option Addr} {kV doc pm ct : Value} {an : Option Addr} {c Pt : Addr} {osl : Array (Option Value)} {N : List Str} {k m : Nat} {s : SM}
    (lk : K.lookup f = some ⟨oc, od, .func (PySem.W.fnOf x x (defArgs st) (defBody st) (defScope st) .none kV doc pm an (.ref c) ct), osl⟩) (hcd : PySem.W.codeIn K (.ref c) x = true) (S : FnScope N ["script"] (defScope st)) (hm : N.length = 1 + m)
    (hbody : ∀ (A : Around) (outer : List Env) (sh : Shared) (H : Hp) (E : XK) (wd : Wd), LamW [(Pt, q)] wd → wd.r = none → Room k (A.deeper (envOfC x (defScope st) sh.heap.objs.size f (.ref c))) → DSs (cxOf (L2.CX P w) P w K mg base N x (defScope st) f (.ref c) A outer sh H E) wd (fun _ => E) (defBody st) s)
    (hlaw : ∀ ns : List Int, ns.length ≤ 63 → (∀ z ∈ ns, Builtin.Int.intBits z ≤ 1048576) → ∃ ρ' π', s (some (.dat (.frz (ns.map D.int))) :: List.replicate m none) .no = .ret (.dat (.bl true)) ρ' π') :
    FnOk P w K mg base (L2.CX P w) (k + 1) f (PySem.W.fnOf x x (defArgs st) (defBody st) (defScope st) .none kV doc pm an (.ref c) ct) ["script"] (spLaw (K := K) Pt q) := by
  refine fn_of lk hcd S (fun vs H Q E h => ?_) fun A outer sh H vs Q E hr hsp => ?_
  · obtain ⟨a, ns, rfl, _⟩ := h
    rfl
  · obtain ⟨a, ns, rfl, hS, hT, hl, hbits, hQ⟩ := hsp
    obtain ⟨ρ', π', e⟩ := hlaw ns hl hbits
    obtain ⟨G, g1, g2, g3⟩ : ∃ G : Hp, Same G H ∧ (∀ b ps, G b ≠ some (.tbl ps)) ∧ SqL K G a (ns.map V.int) := by
      rcases hS with z | z
      · refine ⟨fun b => if b = a then H a else none, fun b o h => ?_, fun b ps h => ?_, .inl ?_⟩
        · by_cases hb : b = a
          · subst hb
            simpa using h
          · simp [hb] at h
        · by_cases hb : b = a
          · subst hb
            simp only [if_true] at h
            rcases z with z | ⟨o, z⟩ <;> (rw [z] at h; cases h)
          · simp [hb] at h
        · exact z.imp (fun z => by simpa using z) fun ⟨o, z⟩ => ⟨o, by simpa using z⟩
      · exact ⟨fun _ => none, fun b o h => (by cases h), fun b ps h => (by cases h), .inr z⟩
    refine ⟨_, (hbody A outer sh H E (lawWd [(Pt, q)] G) lawWd_lam rfl hr).ps, fun _ => none, G, some (.dat (.frz (ns.map D.int))) :: List.replicate m none, .no, ?_, ?_⟩
    · have hst : L2.start N [V.ref a] = some (V.ref a) :: List.replicate m none := by
        unfold L2.start
        rw [hm]
        show [some (V.ref a)] ++ List.replicate (1 + m - 1) none = _
        rw [Nat.add_sub_cancel_left]
        rfl
      rw [hst]
      refine ⟨Same.refl _, g1, fun b o h => .inl h, g2, fun b o _ _ h => (by cases h), fun b h => (h rfl).elim, tabs_one hT, fun b w h => (by cases h), rfl, by simp, fun i sv h => ?_⟩
      cases i with
      | zero =>
        cases h
        exact ⟨.ref a, rfl, .frz g3 (dpAll_ints ns)⟩
      | succ i =>
        have := List.mem_replicate.mp (List.mem_of_getElem? (show (List.replicate m (none : Option SV))[i]? = some (some sv) from h))
        cases this.2
    · rw [e]
      intro v σ' O' G' H' R' S' r
      cases r
      exact hQ H'
end
end DL

/-! how the plain readings reduce: what comes behind a step is named, never a lambda, so that simp leaves it alone. -/
namespace DL
open PySem PySem.Spec PyProof.Rows L2
section
theorem mk_ {α : Sort _} {a b : α} (h : a = b) : a = b := h
variable {α β : Type} {ρ : Ev} {π : Rt}
@[simp] theorem r_pure (a : α) : (pure a : EM α) π = .ok a π := mk_ rfl
@[simp] theorem r_bok (a : α) (k : α → Rt → Out β) : (Out.ok a π).bind k = k a π := mk_ rfl
@[simp] theorem r_bex (e : Exn) (k : α → Rt → Out β) : (Out.exc e π : Out α).bind k = .exc e π := mk_ rfl
@[simp] theorem r_bad (k : α → Rt → Out β) : (Out.bad : Out α).bind k = .bad := mk_ rfl
@[simp] theorem r_emb : (EM.bad : EM α) π = .bad := mk_ rfl
@[simp] theorem r_ofS (a : α) : (ofO (some a) : EM α) π = .ok a π := mk_ rfl
@[simp] theorem r_ofN : (ofO (none : Option α) : EM α) π = .bad := mk_ rfl
def kFn (f : β → EM α) : β → Rt → Out α := fun x π => f x π
@[simp] theorem kFn_ (f : β → EM α) (x : β) : kFn f x π = f x π := mk_ rfl
def kNoX : Out α → Out α
  | .ok a π' => .ok a π'
  | _ => .bad
@[simp] theorem r_noX (x : EM α) : noX x π = kNoX (x π) := by unfold noX kNoX; cases x π <;> rfl
@[simp] theorem r_noX1 (a : α) : kNoX (.ok a π) = .ok a π := mk_ rfl
@[simp] theorem r_noX2 (e : Exn) : kNoX (.exc e π : Out α) = .bad := mk_ rfl
@[simp] theorem r_noX3 : kNoX (.bad : Out α) = .bad := mk_ rfl
theorem r_ite {c : Prop} [Decidable c] (x y : EM α) : (if c then x else y) π = if c then x π else y π := by split <;> rfl

/-! expressions -/
def gD : Option (Option SV) → Rt → Out D
  | some (some (.dat d)), π => .ok d π
  | _, _ => .bad
@[simp] theorem gD_ (d : D) : gD (some (some (.dat d))) π = .ok d π := mk_ rfl
@[simp] theorem r_var (i : Nat) : eVar i ρ π = gD ρ[i]? π := by
  unfold eVar gD
  generalize ρ[i]? = o
  rcases o with _ | _ | sv
  · rfl
  · rfl
  · cases sv <;> rfl
def gB : Option (Option SV) → Rt → Out D
  | some (some (.dat d)), π => .ok d π
  | some (some (.lst xs)), π => .ok (.lst xs) π
  | _, _ => .bad
@[simp] theorem gB_ (d : D) : gB (some (some (.dat d))) π = .ok d π := mk_ rfl
@[simp] theorem gB_l (d : List D) : gB (some (some (.lst d))) π = .ok (.lst d) π := mk_ rfl
@[simp] theorem r_varB (i : Nat) : eVarB i ρ π = gB ρ[i]? π := by
  unfold eVarB gB
  generalize ρ[i]? = o
  rcases o with _ | _ | sv
  · rfl
  · rfl
  · cases sv <;> rfl
@[simp] theorem r_C (d : D) : eC d ρ π = .ok d π := mk_ rfl
@[simp] theorem r_nil : aNil ρ π = .ok [] π := mk_ rfl
def kCons2 (x : D) : List D → Rt → Out (List D) := fun xs π => .ok (x :: xs) π
@[simp] theorem kCons2_ (x : D) (xs : List D) : kCons2 x xs π = .ok (x :: xs) π := mk_ rfl
def kCons1 (r : Ev → EM (List D)) (ρ : Ev) : D → Rt → Out (List D) := fun x π => (r ρ π).bind (kCons2 x)
@[simp] theorem kCons1_ (r : Ev → EM (List D)) (ρ : Ev) (x : D) : kCons1 r ρ x π = (r ρ π).bind (kCons2 x) := mk_ rfl
@[simp] theorem r_cons (a : Ev → EM D) (r : Ev → EM (List D)) : aCons a r ρ π = (a ρ π).bind (kCons1 r ρ) := mk_ rfl
def kFrz  : List D → Rt → Out D := fun xs π => .ok (.lst xs) π
@[simp] theorem kFrz_  (xs : List D) : kFrz  xs π = .ok (.lst xs) π := mk_ rfl
@[simp] theorem r_frz (w : Ev → EM (List D)) : eFrz w ρ π = (w ρ π).bind kFrz := mk_ rfl
def kTup  : List D → Rt → Out D := fun xs π => if small xs.length then .ok (.tup xs) π else .bad
@[simp] theorem kTup_  (xs : List D) : kTup  xs π = if small xs.length then .ok (.tup xs) π else .bad := mk_ rfl
@[simp] theorem r_tup (w : Ev → EM (List D)) : eTup w ρ π = (w ρ π).bind kTup := by
  show (w ρ π).bind _ = _
  congr 1
  funext xs π
  exact r_ite _ _
def kLst_  : List D → Rt → Out (List D) := fun xs π => if small xs.length then .ok xs π else .bad
@[simp] theorem kLst__  (xs : List D) : kLst_  xs π = if small xs.length then .ok xs π else .bad := mk_ rfl
@[simp] theorem r_lst (w : Ev → EM (List D)) : eLst w ρ π = (w ρ π).bind kLst_ := by
  show (w ρ π).bind _ = _
  congr 1
  funext xs π
  exact r_ite _ _
def kBin2 (f : D → D → EM D) (x : D) : D → Rt → Out D := fun y π => f x y π
@[simp] theorem kBin2_ (f : D → D → EM D) (x : D) (y : D) : kBin2 f x y π = f x y π := mk_ rfl
def kBin1 (f : D → D → EM D) (b : Ev → EM D) (ρ : Ev) : D → Rt → Out D := fun x π => (b ρ π).bind (kBin2 f x)
@[simp] theorem kBin1_ (f : D → D → EM D) (b : Ev → EM D) (ρ : Ev) (x : D) : kBin1 f b ρ x π = (b ρ π).bind (kBin2 f x) := mk_ rfl
@[simp] theorem r_bin (f : D → D → EM D) (a b : Ev → EM D) : eBin f a b ρ π = (a ρ π).bind (kBin1 f b ρ) := mk_ rfl
def kAsB  : D → Rt → Out Bool := fun x π => asB x π
@[simp] theorem kAsB_  (x : D) : kAsB  x π = asB x π := mk_ rfl
@[simp] theorem r_T (w : Ev → EM D) : eT w ρ π = (w ρ π).bind kAsB := mk_ rfl
@[simp] theorem r_asB (b : Bool) : asB (.bl b) π = .ok b π := mk_ rfl
def kCh4 (g : D → D → EM D) (y : D) : D → Rt → Out D := fun z π => g y z π
@[simp] theorem kCh4_ (g : D → D → EM D) (y : D) (z : D) : kCh4 g y z π = g y z π := mk_ rfl
def kCh3 (g : D → D → EM D) (c : Ev → EM D) (y : D) (ρ : Ev) : Bool → Rt → Out D := fun k π => if k = true then (c ρ π).bind (kCh4 g y) else .ok (.bl false) π
@[simp] theorem kCh3_ (g : D → D → EM D) (c : Ev → EM D) (y : D) (ρ : Ev) (k : Bool) : kCh3 g c y ρ k π = if k = true then (c ρ π).bind (kCh4 g y) else .ok (.bl false) π := mk_ rfl
def kCh2 (f g : D → D → EM D) (c : Ev → EM D) (ρ : Ev) (x : D) : D → Rt → Out D := fun y π => ((f x y π).bind kAsB).bind (kCh3 g c y ρ)
@[simp] theorem kCh2_ (f g : D → D → EM D) (c : Ev → EM D) (ρ : Ev) (x : D) (y : D) : kCh2 f g c ρ x y π = ((f x y π).bind kAsB).bind (kCh3 g c y ρ) := mk_ rfl
def kCh1 (f g : D → D → EM D) (b c : Ev → EM D) (ρ : Ev) : D → Rt → Out D := fun x π => (b ρ π).bind (kCh2 f g c ρ x)
@[simp] theorem kCh1_ (f g : D → D → EM D) (b c : Ev → EM D) (ρ : Ev) (x : D) : kCh1 f g b c ρ x π = (b ρ π).bind (kCh2 f g c ρ x) := mk_ rfl
@[simp] theorem r_chain (f g : D → D → EM D) (a b c : Ev → EM D) : eChain f g a b c ρ π = (a ρ π).bind (kCh1 f g b c ρ) := by
  show (a ρ π).bind _ = _
  congr 1; funext x π
  show (b ρ π).bind _ = (b ρ π).bind _
  congr 1; funext y π
  show (f x y π).bind _ = ((f x y π).bind kAsB).bind _
  cases f x y π with
  | ok z π => 
    show (asB z π).bind _ = (asB z π).bind _
    congr 1; funext k π
    cases k <;> rfl
  | exc e π => rfl
  | bad => rfl
def kAnd2 (b : Ev → EM D) (ρ : Ev) : Bool → Rt → Out D := fun k π => if k = true then b ρ π else .ok (.bl false) π
@[simp] theorem kAnd2_ (b : Ev → EM D) (ρ : Ev) (k : Bool) : kAnd2 b ρ k π = if k = true then b ρ π else .ok (.bl false) π := mk_ rfl
def kAnd1 (b : Ev → EM D) (ρ : Ev) : D → Rt → Out D := fun x π => (asB x π).bind (kAnd2 b ρ)
@[simp] theorem kAnd1_ (b : Ev → EM D) (ρ : Ev) (x : D) : kAnd1 b ρ x π = (asB x π).bind (kAnd2 b ρ) := mk_ rfl
@[simp] theorem r_and (a b : Ev → EM D) : eAnd a b ρ π = (a ρ π).bind (kAnd1 b ρ) := by
  show (a ρ π).bind _ = _
  congr 1; funext x π
  show (asB x π).bind _ = (asB x π).bind _
  congr 1; funext k π
  cases k <;> rfl
def kOr2 (b : Ev → EM D) (ρ : Ev) : Bool → Rt → Out D := fun k π => if k = true then .ok (.bl true) π else b ρ π
@[simp] theorem kOr2_ (b : Ev → EM D) (ρ : Ev) (k : Bool) : kOr2 b ρ k π = if k = true then .ok (.bl true) π else b ρ π := mk_ rfl
def kOr1 (b : Ev → EM D) (ρ : Ev) : D → Rt → Out D := fun x π => (asB x π).bind (kOr2 b ρ)
@[simp] theorem kOr1_ (b : Ev → EM D) (ρ : Ev) (x : D) : kOr1 b ρ x π = (asB x π).bind (kOr2 b ρ) := mk_ rfl
@[simp] theorem r_or (a b : Ev → EM D) : eOr a b ρ π = (a ρ π).bind (kOr1 b ρ) := by
  show (a ρ π).bind _ = _
  congr 1; funext x π
  show (asB x π).bind _ = (asB x π).bind _
  congr 1; funext k π
  cases k <;> rfl
def kNot2  : Bool → Rt → Out D := fun k π => .ok (.bl (!k)) π
@[simp] theorem kNot2_  (k : Bool) : kNot2  k π = .ok (.bl (!k)) π := mk_ rfl
def kNot1  : D → Rt → Out D := fun x π => (asB x π).bind kNot2
@[simp] theorem kNot1_  (x : D) : kNot1  x π = (asB x π).bind kNot2 := mk_ rfl
@[simp] theorem r_not (a : Ev → EM D) : eNot a ρ π = (a ρ π).bind kNot1 := mk_ rfl
def kTAnd (b : Ev → EM Bool) (ρ : Ev) : Bool → Rt → Out Bool := fun k π => if k = true then b ρ π else .ok false π
@[simp] theorem kTAnd_ (b : Ev → EM Bool) (ρ : Ev) (k : Bool) : kTAnd b ρ k π = if k = true then b ρ π else .ok false π := mk_ rfl
@[simp] theorem r_tand (a b : Ev → EM Bool) : tAnd_ a b ρ π = (a ρ π).bind (kTAnd b ρ) := by
  show (a ρ π).bind _ = _
  congr 1; funext k π
  cases k <;> rfl
def kTOr (b : Ev → EM Bool) (ρ : Ev) : Bool → Rt → Out Bool := fun k π => if k = true then .ok true π else b ρ π
@[simp] theorem kTOr_ (b : Ev → EM Bool) (ρ : Ev) (k : Bool) : kTOr b ρ k π = if k = true then .ok true π else b ρ π := mk_ rfl
@[simp] theorem r_tor (a b : Ev → EM Bool) : tOr_ a b ρ π = (a ρ π).bind (kTOr b ρ) := by
  show (a ρ π).bind _ = _
  congr 1; funext k π
  cases k <;> rfl
def kTNot  : Bool → Rt → Out Bool := fun k π => .ok (!k) π
@[simp] theorem kTNot_  (k : Bool) : kTNot  k π = .ok (!k) π := mk_ rfl
@[simp] theorem r_tnot (a : Ev → EM Bool) : tNot_ a ρ π = (a ρ π).bind kTNot := mk_ rfl
@[simp] theorem r_tyes : tYes_ ρ π = .ok true π := mk_ rfl
def kEIf (a b : Ev → EM D) (ρ : Ev) : Bool → Rt → Out D := fun k π => if k = true then a ρ π else b ρ π
@[simp] theorem kEIf_ (a b : Ev → EM D) (ρ : Ev) (k : Bool) : kEIf a b ρ k π = if k = true then a ρ π else b ρ π := mk_ rfl
@[simp] theorem r_eif (t : Ev → EM Bool) (a b : Ev → EM D) : eIf t a b ρ π = (t ρ π).bind (kEIf a b ρ) := by
  show (t ρ π).bind _ = _
  congr 1; funext k π
  cases k <;> rfl
@[simp] theorem r_un (f : D → EM D) (a : Ev → EM D) : eUn f a ρ π = (a ρ π).bind (kFn f) := mk_ rfl
@[simp] theorem r_neg (i : Int) : negM (.int i) π = .ok (.int (-i)) π := mk_ rfl
@[simp] theorem r_on : oNone ρ π = .ok none π := mk_ rfl
@[simp] theorem r_os (w : Ev → EM D) : oSome w ρ π = (w ρ π).bind (kFn asI) := mk_ rfl
@[simp] theorem r_asI (i : Int) : asI (.int i) π = .ok (some i) π := mk_ rfl
def kSl3 (x : D) (l : Option Int) : Option Int → Rt → Out D := fun h π => slM x l h π
@[simp] theorem kSl3_ (x : D) (l : Option Int) (h : Option Int) : kSl3 x l h π = slM x l h π := mk_ rfl
def kSl2 (hi : Ev → EM (Option Int)) (ρ : Ev) (x : D) : Option Int → Rt → Out D := fun l π => (hi ρ π).bind (kSl3 x l)
@[simp] theorem kSl2_ (hi : Ev → EM (Option Int)) (ρ : Ev) (x : D) (l : Option Int) : kSl2 hi ρ x l π = (hi ρ π).bind (kSl3 x l) := mk_ rfl
def kSl1 (lo hi : Ev → EM (Option Int)) (ρ : Ev) : D → Rt → Out D := fun x π => (lo ρ π).bind (kSl2 hi ρ x)
@[simp] theorem kSl1_ (lo hi : Ev → EM (Option Int)) (ρ : Ev) (x : D) : kSl1 lo hi ρ x π = (lo ρ π).bind (kSl2 hi ρ x) := mk_ rfl
@[simp] theorem r_sl (w : Ev → EM D) (lo hi : Ev → EM (Option Int)) : eSl w lo hi ρ π = (w ρ π).bind (kSl1 lo hi ρ) := mk_ rfl
@[simp] theorem r_call (f : List D → EM α) (w : Ev → EM (List D)) : eCall f w ρ π = (w ρ π).bind (kFn f) := mk_ rfl
@[simp] theorem r_items (w : Ev → EM D) : eItems w ρ π = (w ρ π).bind (kFn itemsM) := mk_ rfl
def gR {α : Type} (o : Option (Option SV)) (x : Out α) : Out α := match o with
  | some (some .root) => x
  | _ => .bad
@[simp] theorem gR_ (x : Out α) : gR (some (some .root)) x = x := mk_ rfl
@[simp] theorem r_root (i : Nat) (r : Ev → EM (List D)) : aRoot i r ρ π = gR ρ[i]? (r ρ π) := by
  unfold aRoot gR
  generalize ρ[i]? = o
  rcases o with _ | _ | sv
  · rfl
  · rfl
  · cases sv <;> rfl
def kVal : RV → Rt → Out D
  | .dat d, π => .ok d π
  | .lst xs, π => .ok (.lst xs) π
@[simp] theorem kVal_d (d : D) : kVal (.dat d) π = .ok d π := mk_ rfl
@[simp] theorem kVal_l (d : List D) : kVal (.lst d) π = .ok (.lst d) π := mk_ rfl
@[simp] theorem r_val (w : Ev → EM RV) : eVal w ρ π = (w ρ π).bind kVal := by
  show (w ρ π).bind _ = _
  congr 1; funext v π
  cases v <;> rfl
def kNew : RV → Rt → Out (List D)
  | .dat d, π => .bad
  | .lst xs, π => .ok xs π
@[simp] theorem kNew_l (d : List D) : kNew (.lst d) π = .ok d π := mk_ rfl
@[simp] theorem r_new (w : Ev → EM RV) : eNew w ρ π = (w ρ π).bind kNew := by
  show (w ρ π).bind _ = _
  congr 1; funext v π
  cases v <;> rfl
def kComp (g : GM) (t : Ev → EM Bool) (f : Ev → EM D) (ρ : Ev) : List D → Rt → Out (List D) := fun ds π => if ds.length ≤ most then compGo g t f ρ ds π else .bad
@[simp] theorem kComp_ (g : GM) (t : Ev → EM Bool) (f : Ev → EM D) (ρ : Ev) (ds : List D) : kComp g t f ρ ds π = if ds.length ≤ most then compGo g t f ρ ds π else .bad := mk_ rfl
@[simp] theorem r_comp (w : Ev → EM (List D)) (g : GM) (t : Ev → EM Bool) (f : Ev → EM D) (vs : List Nat) : eComp w g t f vs ρ π = (w ρ π).bind (kComp g t f (wipeE ρ vs)) := by
  show (w ρ π).bind _ = _
  congr 1; funext ds π
  exact r_ite _ _
def kIxR : D → Rt → Out D
  | k, .lst xs => ixM (.lst xs) k (.lst xs)
  | _, _ => .bad
@[simp] theorem kIxR_ (k : D) (xs : List D) : kIxR k (.lst xs) = ixM (.lst xs) k (.lst xs) := mk_ rfl
@[simp] theorem r_ixR (i : Nat) (wk : Ev → EM D) : eIxR i wk ρ π = gR ρ[i]? ((wk ρ π).bind kIxR) := by
  unfold eIxR gR
  generalize ρ[i]? = o
  rcases o with _ | _ | sv
  · rfl
  · rfl
  · cases sv with
    | root =>
      show (wk ρ π).bind _ = (wk ρ π).bind _
      congr 1
      funext k π2
      cases π2 <;> rfl
    | _ => rfl
def gX (f : Str) (cs : List Str) : Option (Option SV) → Rt → Out D
  | some (some (.exn e)), π => if cs.contains e.c then (match e.fs.lookup f with
    | some d => .ok d π
    | none => .bad) else .bad
  | _, _ => .bad
@[simp] theorem r_xf (i : Nat) (f : Str) (cs : List Str) : eXf i f cs ρ π = gX f cs ρ[i]? π := by
  unfold eXf gX
  generalize ρ[i]? = o
  rcases o with _ | _ | sv
  · rfl
  · rfl
  · cases sv <;> rfl
@[simp] theorem gX_ (f : Str) (cs : List Str) (e : Exn) : gX f cs (some (some (.exn e))) π = if cs.contains e.c then ofO (e.fs.lookup f) π else .bad := by
  show (if cs.contains e.c then _ else _) = _
  split
  · cases e.fs.lookup f <;> rfl
  · rfl
/-! statements -/
def soS (u : SM) : SO → SO
  | .nx ρ' π' => u ρ' π'
  | o => o
@[simp] theorem soS_n (u : SM) : soS u (.nx ρ π) = u ρ π := mk_ rfl
@[simp] theorem soS_r (u : SM) (v : RV) : soS u (.ret v ρ π) = .ret v ρ π := mk_ rfl
@[simp] theorem soS_b (u : SM) : soS u (.brk ρ π) = .brk ρ π := mk_ rfl
@[simp] theorem soS_c (u : SM) : soS u (.ct ρ π) = .ct ρ π := mk_ rfl
@[simp] theorem soS_e (u : SM) (e : Exn) : soS u (.exc e ρ π) = .exc e ρ π := mk_ rfl
@[simp] theorem soS_bad (u : SM) : soS u .bad = .bad := mk_ rfl
@[simp] theorem r_nop : sNop ρ π = .nx ρ π := mk_ rfl
@[simp] theorem r_seq (s u : SM) : sSeq s u ρ π = soS u (s ρ π) := by unfold sSeq soS; cases s ρ π <;> rfl
@[simp] theorem r_brk : sBreak ρ π = .brk ρ π := mk_ rfl
@[simp] theorem r_cont : sCont ρ π = .ct ρ π := mk_ rfl
@[simp] theorem r_soO (a : α) (k : α → Rt → SO) : SO.of ρ (.ok a π) k = k a π := mk_ rfl
@[simp] theorem r_soE (e : Exn) (k : α → Rt → SO) : SO.of ρ (.exc e π : Out α) k = .exc e ρ π := mk_ rfl
@[simp] theorem r_soB (k : α → Rt → SO) : SO.of ρ (.bad : Out α) k = .bad := mk_ rfl
def kExpr (ρ : Ev) : D → Rt → SO := fun x π => .nx ρ π
@[simp] theorem kExpr_ (ρ : Ev) (x : D) : kExpr ρ x π = .nx ρ π := mk_ rfl
@[simp] theorem r_expr (w : Ev → EM D) : sExpr w ρ π = SO.of ρ (w ρ π) (kExpr ρ) := mk_ rfl
def kRet (ρ : Ev) : D → Rt → SO := fun x π => .ret (.dat x) ρ π
@[simp] theorem kRet_ (ρ : Ev) (x : D) : kRet ρ x π = .ret (.dat x) ρ π := mk_ rfl
@[simp] theorem r_ret (w : Ev → EM D) : sRet w ρ π = SO.of ρ (w ρ π) (kRet ρ) := mk_ rfl
def kRetF (ρ : Ev) : List D → Rt → SO := fun x π => .ret (.lst x) ρ π
@[simp] theorem kRetF_ (ρ : Ev) (x : List D) : kRetF ρ x π = .ret (.lst x) ρ π := mk_ rfl
@[simp] theorem r_retF (w : Ev → EM (List D)) : sRetF w ρ π = SO.of ρ (w ρ π) (kRetF ρ) := mk_ rfl
def kRetR (ρ : Ev) : RV → Rt → SO := fun x π => .ret x ρ π
@[simp] theorem kRetR_ (ρ : Ev) (x : RV) : kRetR ρ x π = .ret x ρ π := mk_ rfl
@[simp] theorem r_retR (w : Ev → EM RV) : sRetR w ρ π = SO.of ρ (w ρ π) (kRetR ρ) := mk_ rfl
@[simp] theorem r_retN : sRetN ρ π = .ret (.dat .non) ρ π := mk_ rfl
def gO (i : Nat) (ρ : Ev) : Option (Option SV) → Rt → SO
  | some (some (.lst xs)), π => .ret (.lst xs) (ρ.set i none) π
  | some (some (.dat d)), π => .ret (.dat d) ρ π
  | _, _ => .bad
@[simp] theorem gO_l (i : Nat) (xs : List D) : gO i ρ (some (some (.lst xs))) π = .ret (.lst xs) (ρ.set i none) π := mk_ rfl
@[simp] theorem gO_d (i : Nat) (d : D) : gO i ρ (some (some (.dat d))) π = .ret (.dat d) ρ π := mk_ rfl
@[simp] theorem r_retO (i : Nat) : sRetO i ρ π = gO i ρ ρ[i]? π := by
  unfold sRetO gO
  generalize ρ[i]? = o
  rcases o with _ | _ | sv
  · rfl
  · rfl
  · cases sv <;> rfl
def kSet (i : Nat) (ρ : Ev) : D → Rt → SO := fun x π => .nx (ρ.set i (some (.dat x))) π
@[simp] theorem kSet_ (i : Nat) (ρ : Ev) (x : D) : kSet i ρ x π = .nx (ρ.set i (some (.dat x))) π := mk_ rfl
@[simp] theorem r_set (i : Nat) (w : Ev → EM D) : sSet i w ρ π = SO.of ρ (w ρ π) (kSet i ρ) := mk_ rfl
def kSetF (i : Nat) (ρ : Ev) : List D → Rt → SO := fun x π => .nx (ρ.set i (some (.lst x))) π
@[simp] theorem kSetF_ (i : Nat) (ρ : Ev) (x : List D) : kSetF i ρ x π = .nx (ρ.set i (some (.lst x))) π := mk_ rfl
@[simp] theorem r_setF (i : Nat) (w : Ev → EM (List D)) : sSetF i w ρ π = SO.of ρ (w ρ π) (kSetF i ρ) := mk_ rfl
def nxO : Option Ev → Rt → SO
  | some ρ', π => .nx ρ' π
  | none, _ => .bad
@[simp] theorem nxO_ : nxO (some ρ) π = .nx ρ π := mk_ rfl
@[simp] theorem nxO_n : nxO none π = .bad := mk_ rfl
def kAsg (g : GM) (ρ : Ev) : D → Rt → SO := fun x π => nxO (g x ρ) π
@[simp] theorem kAsg_ (g : GM) (ρ : Ev) (x : D) : kAsg g ρ x π = nxO (g x ρ) π := mk_ rfl
@[simp] theorem r_asg (g : GM) (w : Ev → EM D) : sAsg g w ρ π = SO.of ρ (w ρ π) (kAsg g ρ) := by
  unfold sAsg kAsg nxO
  congr 1
  funext d p
  cases g d ρ <;> rfl
def kAug (i : Nat) (f : Int → Int → Int) (ρ : Ev) (x : D) : D → Rt → SO := fun d π => nxO ((ipD f x d).map fun z => ρ.set i (some (.dat z))) π
@[simp] theorem kAug_ (i : Nat) (f : Int → Int → Int) (ρ : Ev) (x : D) (d : D) : kAug i f ρ x d π = nxO ((ipD f x d).map fun z => ρ.set i (some (.dat z))) π := mk_ rfl
def gA (i : Nat) (f : Int → Int → Int) (ρ : Ev) (o : Out D) : Option (Option SV) → SO
  | some (some (.dat x)) => SO.of ρ o (kAug i f ρ x)
  | _ => .bad
@[simp] theorem gA_ (i : Nat) (f : Int → Int → Int) (o : Out D) (x : D) : gA i f ρ o (some (some (.dat x))) = SO.of ρ o (kAug i f ρ x) := mk_ rfl
@[simp] theorem r_aug (i : Nat) (f : Int → Int → Int) (w : Ev → EM D) : sAug i f w ρ π = gA i f ρ (w ρ π) ρ[i]? := by
  unfold sAug gA
  generalize ρ[i]? = o
  rcases o with _ | _ | sv
  · rfl
  · rfl
  · cases sv with
    | dat x =>
      show SO.of ρ (w ρ π) _ = SO.of ρ (w ρ π) _
      congr 1
      funext d p
      unfold kAug
      cases ipD f x d <;> rfl
    | _ => rfl
@[simp] theorem r_ip (f : Int → Int → Int) (i j : Int) : ipD f (.int i) (.int j) = some (.int (f i j)) := mk_ rfl
def kIf_ (s u : SM) (ρ : Ev) : Bool → Rt → SO := fun k π => if k = true then s ρ π else u ρ π
@[simp] theorem kIf__ (s u : SM) (ρ : Ev) (k : Bool) : kIf_ s u ρ k π = if k = true then s ρ π else u ρ π := mk_ rfl
@[simp] theorem r_if (t : Ev → EM Bool) (s u : SM) : sIf t s u ρ π = SO.of ρ (t ρ π) (kIf_ s u ρ) := mk_ rfl
def kFor (g : GM) (s : SM) (ρ : Ev) : List D → Rt → SO := fun ds π => forGo g s ds ρ π
@[simp] theorem kFor_ (g : GM) (s : SM) (ρ : Ev) (ds : List D) : kFor g s ρ ds π = forGo g s ds ρ π := mk_ rfl
@[simp] theorem r_for (w : Ev → EM (List D)) (g : GM) (s : SM) : sFor w g s ρ π = SO.of ρ (w ρ π) (kFor g s ρ) := mk_ rfl
@[simp] theorem r_while (m : Ev → Nat) (t : Ev → EM Bool) (s : SM) : sWhile m t s ρ π = whileGo t s (m ρ) ρ π := mk_ rfl
def kMut (i : Nat) (f : List D → D → Option (List D)) (ρ : Ev) (xs : List D) : D → Rt → SO := fun d π => nxO ((f xs d).map fun ys => ρ.set i (some (.lst ys))) π
@[simp] theorem kMut_ (i : Nat) (f : List D → D → Option (List D)) (ρ : Ev) (xs : List D) (d : D) : kMut i f ρ xs d π = nxO ((f xs d).map fun ys => ρ.set i (some (.lst ys))) π := mk_ rfl
def gM (i : Nat) (f : List D → D → Option (List D)) (ρ : Ev) (o : Out D) : Option (Option SV) → SO
  | some (some (.lst xs)) => SO.of ρ o (kMut i f ρ xs)
  | _ => .bad
@[simp] theorem gM_ (i : Nat) (f : List D → D → Option (List D)) (o : Out D) (x : List D) : gM i f ρ o (some (some (.lst x))) = SO.of ρ o (kMut i f ρ x) := mk_ rfl
@[simp] theorem r_mut (i : Nat) (w : Ev → EM D) (f : List D → D → Option (List D)) : sMut i w f ρ π = gM i f ρ (w ρ π) ρ[i]? := by
  unfold sMut gM
  generalize ρ[i]? = o
  rcases o with _ | _ | sv
  · rfl
  · rfl
  · cases sv with
    | lst x =>
      show SO.of ρ (w ρ π) _ = SO.of ρ (w ρ π) _
      congr 1
      funext d p
      unfold kMut
      cases f x d <;> rfl
    | _ => rfl
def gF (i : Nat) (s : SM) (ρ : Ev) : Option (Option SV) → Rt → SO
  | some (some (.lst xs)), π => s (ρ.set i (some (.dat (.lst xs)))) π
  | _, π => s ρ π
@[simp] theorem gF_l (i : Nat) (s : SM) (xs : List D) : gF i s ρ (some (some (.lst xs))) π = s (ρ.set i (some (.dat (.lst xs)))) π := mk_ rfl
@[simp] theorem gF_d (i : Nat) (s : SM) (d : D) : gF i s ρ (some (some (.dat d))) π = s ρ π := mk_ rfl
@[simp] theorem gF_n (i : Nat) (s : SM) : gF i s ρ (some none) π = s ρ π := mk_ rfl
@[simp] theorem r_sfrz (i : Nat) (s : SM) : sFrz i s ρ π = gF i s ρ ρ[i]? π := by
  unfold sFrz gF
  generalize ρ[i]? = o
  rcases o with _ | _ | sv
  · rfl
  · rfl
  · cases sv <;> rfl
def kSx2 (i : Nat) (ρ : Ev) (d : D) (xs : List D) : D → Rt → SO := fun k π => nxO ((setF xs k d).map fun ys => ρ.set i (some (.lst ys))) π
@[simp] theorem kSx2_ (i : Nat) (ρ : Ev) (d : D) (xs : List D) (k : D) : kSx2 i ρ d xs k π = nxO ((setF xs k d).map fun ys => ρ.set i (some (.lst ys))) π := mk_ rfl
def kSx1 (i : Nat) (wk : Ev → EM D) (ρ : Ev) : D → Rt → SO := fun d π => match ρ[i]? with
  | some (some (.lst xs)) => SO.of ρ (wk ρ π) (kSx2 i ρ d xs)
  | _ => .bad
@[simp] theorem kSx1_ (i : Nat) (wk : Ev → EM D) (ρ : Ev) (d : D) : kSx1 i wk ρ d π = match ρ[i]? with
  | some (some (.lst xs)) => SO.of ρ (wk ρ π) (kSx2 i ρ d xs)
  | _ => .bad := rfl
@[simp] theorem r_setIx (i : Nat) (w : Ev → EM D) (wk : Ev → EM D) : sSetIx i w wk ρ π = SO.of ρ (w ρ π) (kSx1 i wk ρ) := by
  unfold sSetIx kSx1
  congr 1
  funext d p
  generalize ρ[i]? = o
  rcases o with _ | _ | sv
  · rfl
  · rfl
  · cases sv with
    | lst x =>
      show SO.of ρ (wk ρ p) _ = SO.of ρ (wk ρ p) _
      congr 1
      funext k p2
      unfold kSx2
      cases setF x k d <;> rfl
    | _ => rfl
def kSr2 (ρ : Ev) (d : D) : D → Rt → SO := fun k π => rootSet ρ d k π
@[simp] theorem kSr2_ (ρ : Ev) (d : D) (k : D) : kSr2 ρ d k π = rootSet ρ d k π := mk_ rfl
def kSr1 (i : Nat) (wk : Ev → EM D) (ρ : Ev) : D → Rt → SO := fun d π => match ρ[i]? with
  | some (some .root) => SO.of ρ (wk ρ π) (kSr2 ρ d)
  | _ => .bad
@[simp] theorem kSr1_ (i : Nat) (wk : Ev → EM D) (ρ : Ev) (d : D) : kSr1 i wk ρ d π = match ρ[i]? with
  | some (some .root) => SO.of ρ (wk ρ π) (kSr2 ρ d)
  | _ => .bad := rfl
@[simp] theorem r_setIxR (i : Nat) (w : Ev → EM D) (wk : Ev → EM D) : sSetIxR i w wk ρ π = SO.of ρ (w ρ π) (kSr1 i wk ρ) := by
  unfold sSetIxR kSr1
  rfl
def nxR (ρ : Ev) : Option (List D) → SO
  | some ys => .nx ρ (.lst ys)
  | none => .bad
@[simp] theorem nxR_ (ys : List D) : nxR ρ (some ys) = .nx ρ (.lst ys) := mk_ rfl
@[simp] theorem r_rootSet (d k : D) (xs : List D) : rootSet ρ d k (.lst xs) = nxR ρ (setF xs k d) := by
  show (match setF xs k d with
    | some ys => SO.nx ρ (Rt.lst ys)
    | none => SO.bad) = _
  unfold nxR
  cases setF xs k d <;> rfl
def kRaise (c : Str) (names : List Str) (ρ : Ev) : List D → Rt → SO := fun ds π => if ds.length = names.length then .exc ⟨c, (names.zip ds).reverse⟩ ρ π else .bad
@[simp] theorem kRaise_ (c : Str) (names : List Str) (ρ : Ev) (ds : List D) : kRaise c names ρ ds π = if ds.length = names.length then .exc ⟨c, (names.zip ds).reverse⟩ ρ π else .bad := mk_ rfl
@[simp] theorem r_raise (c : Str) (names : List Str) (ws : Ev → EM (List D)) : sRaise c names ws ρ π = SO.of ρ (ws ρ π) (kRaise c names ρ) := mk_ rfl
def soT (hs : List (Tab × SM)) : SO → SO
  | .exc e ρ' π' => handle hs e ρ' π'
  | o => o
@[simp] theorem soT_n (hs : List (Tab × SM)) : soT hs (.nx ρ π) = .nx ρ π := mk_ rfl
@[simp] theorem soT_r (hs : List (Tab × SM)) (v : RV) : soT hs (.ret v ρ π) = .ret v ρ π := mk_ rfl
@[simp] theorem soT_e (hs : List (Tab × SM)) (e : Exn) : soT hs (.exc e ρ π) = handle hs e ρ π := mk_ rfl
@[simp] theorem r_try (hs : List (Tab × SM)) (s : SM) : sTry hs s ρ π = soT hs (s ρ π) := by unfold sTry soT; cases s ρ π <;> rfl
def soA (i : Nat) (tab : Tab) (u : SM) : SO → SO
  | .exc e ρ' π' => (match tab.lookup e.c with
    | some true => outAs i (u ((clr ρ').set i (some (.exn e))) π')
    | some false => .exc e ρ' π'
    | none => .bad)
  | o => o
@[simp] theorem soA_n (i : Nat) (tab : Tab) (u : SM) : soA i tab u (.nx ρ π) = .nx ρ π := mk_ rfl
@[simp] theorem soA_r (i : Nat) (tab : Tab) (u : SM) (v : RV) : soA i tab u (.ret v ρ π) = .ret v ρ π := mk_ rfl
theorem soA_e (i : Nat) (tab : Tab) (u : SM) (e : Exn) (h : tab.lookup e.c = some true) : soA i tab u (.exc e ρ π) = outAs i (u ((clr ρ).set i (some (.exn e))) π) := by
  unfold soA
  simp only [h]
@[simp] theorem r_tryAs (i : Nat) (tab : Tab) (u s : SM) : sTryAs i tab u s ρ π = soA i tab u (s ρ π) := by unfold sTryAs soA; cases s ρ π <;> rfl
theorem handle_t {tab : Tab} {u : SM} {r : List (Tab × SM)} {e : Exn} (h : tab.lookup e.c = some true) : handle ((tab, u) :: r) e = u := by
  simp only [handle, h]
theorem handle_f {tab : Tab} {u : SM} {r : List (Tab × SM)} {e : Exn} (h : tab.lookup e.c = some false) : handle ((tab, u) :: r) e = handle r e := by
  simp only [handle, h]
def kPar (is : List Nat) (ρ : Ev) : List KV → Rt → SO := fun ks π => nxO (bindK is ks ρ) π
@[simp] theorem kPar_ (is : List Nat) (ρ : Ev) (ks : List KV) : kPar is ρ ks π = nxO (bindK is ks ρ) π := mk_ rfl
@[simp] theorem r_par (kk : Nat) (is : List Nat) (w : Ev → EM (List KV)) : sPar kk is w ρ π = if ρ.length ≤ kk then SO.of ρ (w ρ π) (kPar is ρ) else .bad := by
  unfold sPar kPar nxO
  split
  · congr 1
    funext d p
    cases bindK is d ρ <;> rfl
  · rfl
@[simp] theorem r_kNil : kNil ρ π = .ok [] π := mk_ rfl
def kKd2 (x : D) : List KV → Rt → Out (List KV) := fun xs π => .ok (.dat x :: xs) π
@[simp] theorem kKd2_ (x : D) (xs : List KV) : kKd2 x xs π = .ok (.dat x :: xs) π := mk_ rfl
def kKd1 (r : Ev → EM (List KV)) (ρ : Ev) : D → Rt → Out (List KV) := fun x π => (r ρ π).bind (kKd2 x)
@[simp] theorem kKd1_ (r : Ev → EM (List KV)) (ρ : Ev) (x : D) : kKd1 r ρ x π = (r ρ π).bind (kKd2 x) := mk_ rfl
@[simp] theorem r_kDat (a : Ev → EM D) (r : Ev → EM (List KV)) : kDat a r ρ π = (a ρ π).bind (kKd1 r ρ) := mk_ rfl
def kKl2 (x : List D) : List KV → Rt → Out (List KV) := fun xs π => .ok (.lst x :: xs) π
@[simp] theorem kKl2_ (x : List D) (xs : List KV) : kKl2 x xs π = .ok (.lst x :: xs) π := mk_ rfl
def kKl1 (r : Ev → EM (List KV)) (ρ : Ev) : List D → Rt → Out (List KV) := fun x π => (r ρ π).bind (kKl2 x)
@[simp] theorem kKl1_ (r : Ev → EM (List KV)) (ρ : Ev) (x : List D) : kKl1 r ρ x π = (r ρ π).bind (kKl2 x) := mk_ rfl
@[simp] theorem r_kLst (a : Ev → EM (List D)) (r : Ev → EM (List KV)) : kLst a r ρ π = (a ρ π).bind (kKl1 r ρ) := mk_ rfl
@[simp] theorem r_bindK0 : bindK [] [] ρ = some ρ := mk_ rfl
@[simp] theorem r_bindKd (i : Nat) (is : List Nat) (d : D) (ks : List KV) : bindK (i :: is) (.dat d :: ks) ρ = bindK is ks (ρ.set i (some (.dat d))) := mk_ rfl
@[simp] theorem r_bindKl (i : Nat) (is : List Nat) (d : List D) (ks : List KV) : bindK (i :: is) (.lst d :: ks) ρ = bindK is ks (ρ.set i (some (.lst d))) := mk_ rfl
@[simp] theorem r_gN (i : Nat) (d : D) : gN i d ρ = some (ρ.set i (some (.dat d))) := mk_ rfl
@[simp] theorem r_gNil : gNil_ [] ρ = some ρ := mk_ rfl
@[simp] theorem r_gCons (g : GM) (gs : GsM) (d : D) (r : List D) : gCons_ g gs (d :: r) ρ = (g d ρ).bind (gs r) := mk_ rfl
@[simp] theorem r_gT (n : Nat) (gs : GsM) (ds : List D) : gT n gs (.tup ds) ρ = if ds.length = n then gs ds ρ else none := mk_ rfl
@[simp] theorem r_wipe0 : wipeE ρ [] = ρ := mk_ rfl
@[simp] theorem r_wipe1 (v : Nat) (vs : List Nat) : wipeE ρ (v :: vs) = (wipeE ρ vs).set v none := mk_ rfl
/-! operations -/
@[simp] theorem o_add (i j : Int) : addM (.int i) (.int j) π = .ok (.int (i + j)) π := mk_ rfl
@[simp] theorem o_sub (i j : Int) : subM (.int i) (.int j) π = .ok (.int (i - j)) π := mk_ rfl
theorem o_mul {i j : Int} (h : (fits i || fits j) = true) : mulM (.int i) (.int j) π = .ok (.int (i * j)) π := by
  show ((if (fits i || fits j) = true then pure (D.int (i * j)) else EM.bad : EM D) π) = _
  rw [if_pos h]
  rfl
theorem o_div {i j : Int} (h : divOk j = true) : divM (.int i) (.int j) π = .ok (.int (i / j)) π := by
  show ((if divOk j = true then pure (D.int (i / j)) else EM.bad : EM D) π) = _
  rw [if_pos h]
  rfl
theorem o_mod {i j : Int} (h : 0 < j) : modM (.int i) (.int j) π = .ok (.int (i % j)) π := by
  show ((if decide (0 < j) = true then pure (D.int (i % j)) else EM.bad : EM D) π) = _
  rw [if_pos (decide_eq_true h)]
  rfl
@[simp] theorem o_cmp (p : Int → Int → Bool) (i j : Int) : cmpM p (.int i) (.int j) π = .ok (.bl (p i j)) π := mk_ rfl
@[simp] theorem o_isN (d : D) : isM false d .non π = .ok (.bl d.isNon) π := by cases d <;> rfl
@[simp] theorem o_isntN (d : D) : isM true d .non π = .ok (.bl (!d.isNon)) π := by cases d <;> rfl
@[simp] theorem o_isB (a b : Bool) : isM false (.bl a) (.bl b) π = .ok (.bl (decide (a = b))) π := mk_ rfl
@[simp] theorem o_isntB (a b : Bool) : isM true (.bl a) (.bl b) π = .ok (.bl (!decide (a = b))) π := mk_ rfl
@[simp] theorem o_len (xs : List D) : lenM [.lst xs] π = .ok (.int xs.length) π := mk_ rfl
@[simp] theorem o_lenT (xs : List D) : lenM [.tup xs] π = .ok (.int xs.length) π := mk_ rfl
@[simp] theorem o_abs (i : Int) : absM [.int i] π = .ok (.int (if i < 0 then -i else i)) π := mk_ rfl
@[simp] theorem o_int (i : Int) : intM [.int i] π = .ok (.int i) π := mk_ rfl
@[simp] theorem o_tuple (xs : List D) : tupleM [.lst xs] π = .ok (.tup xs) π := mk_ rfl
@[simp] theorem o_tupleT (xs : List D) : tupleM [.tup xs] π = .ok (.tup xs) π := mk_ rfl
@[simp] theorem o_list (xs : List D) : listM [.lst xs] π = .ok xs π := mk_ rfl
@[simp] theorem o_listT (xs : List D) : listM [.tup xs] π = .ok xs π := mk_ rfl
@[simp] theorem o_slL (xs : List D) (lo hi : Option Int) : slM (.lst xs) lo hi π = .ok (.lst (cut xs lo hi)) π := mk_ rfl
@[simp] theorem o_slT (xs : List D) (lo hi : Option Int) : slM (.tup xs) lo hi π = .ok (.tup (cut xs lo hi)) π := mk_ rfl
@[simp] theorem o_slF (xs : List D) (lo hi : Option Int) : slM (.frz xs) lo hi π = .ok (.lst (cut xs lo hi)) π := mk_ rfl
@[simp] theorem o_itL (xs : List D) : itemsM (.lst xs) π = .ok xs π := mk_ rfl
@[simp] theorem o_itT (xs : List D) : itemsM (.tup xs) π = .ok xs π := mk_ rfl
@[simp] theorem o_itS (z : Str) : itemsM (.str z) π = .ok (chars z) π := mk_ rfl
@[simp] theorem o_ixL (xs : List D) (i : Int) : ixM (.lst xs) (.int i) π = ofO (atI xs i) π := mk_ rfl
@[simp] theorem o_ixT (xs : List D) (i : Int) : ixM (.tup xs) (.int i) π = ofO (atI xs i) π := mk_ rfl
@[simp] theorem o_eqM (d e : D) : eqM d e π = ofO ((eqB d e).map .bl) π := congrFun (show eqM d e = ofO ((eqB d e).map .bl) by unfold eqM; exact Eq.refl _) π
@[simp] theorem o_neM (d e : D) : neM d e π = ofO ((eqB d e).map fun b => .bl (!b)) π := congrFun (show neM d e = ofO ((eqB d e).map fun b => .bl (!b)) by unfold neM; exact Eq.refl _) π
theorem o_rng1 {j : Int} (h : inR j = true) : rng1M [.int j] π = .ok (rng 0 j.toNat) π := by
  show ((if inR j = true then pure (rng 0 j.toNat) else EM.bad : EM (List D)) π) = _
  rw [if_pos h]
  rfl
theorem o_rng2 {i j : Int} (h : (inR i && inR j) = true) : rng2M [.int i, .int j] π = .ok (rng i (j - i).toNat) π := by
  show ((if (inR i && inR j) = true then pure (rng i (j - i).toNat) else EM.bad : EM (List D)) π) = _
  rw [if_pos h]
  rfl
@[simp] theorem small_lit {n : Nat} : small n = decide (n ≤ 1000) := mk_ rfl
/-! runs -/
def outB : SO → Out RV
  | .nx _ π' => .ok (.dat .non) π'
  | .ret rv _ π' => .ok rv π'
  | .exc e _ π' => .exc e π'
  | _ => .bad
@[simp] theorem r_run (s : SM) (rt : Option Nat) (m : Nat) (ds : List D) : runB s rt m ds π = outB (s (ρ0 rt m ds) π) := by
  unfold runB outB
  split <;> simp_all
@[simp] theorem r_out1 : outB (.nx ρ π) = .ok (.dat .non) π := mk_ rfl
@[simp] theorem r_out2 (rv : RV) : outB (.ret rv ρ π) = .ok rv π := mk_ rfl
@[simp] theorem r_out3 (e : Exn) : outB (.exc e ρ π) = .exc e π := mk_ rfl
@[simp] theorem r_out4 : outB .bad = .bad := mk_ rfl
@[simp] theorem r_rho (rt : Option Nat) (m : Nat) (ds : List D) : ρ0 rt m ds = (argE rt ds).map some ++ List.replicate m none := mk_ rfl
@[simp] theorem r_arg0 (ds : List D) : argE none ds = ds.map .dat := by unfold argE; rfl
@[simp] theorem r_arg1 (ds : List D) : argE (some 0) ds = .root :: ds.map .dat := by unfold argE; rfl
@[simp] theorem r_arg2 (k : Nat) (d : D) (ds : List D) : argE (some (k + 1)) (d :: ds) = .dat d :: argE (some k) ds := by rw [argE]
theorem runB_ret {s : SM} {rt : Option Nat} {m : Nat} {ds : List D} {rv : RV} {ρ' : Ev} {π' : Rt} (h : s (ρ0 rt m ds) π = .ret rv ρ' π') : runB s rt m ds π = .ok rv π' := by unfold runB; rw [h]
theorem runB_exc {s : SM} {rt : Option Nat} {m : Nat} {ds : List D} {e : Exn} {ρ' : Ev} {π' : Rt} (h : s (ρ0 rt m ds) π = .exc e ρ' π') : runB s rt m ds π = .exc e π' := by unfold runB; rw [h]
theorem runB_nx {s : SM} {rt : Option Nat} {m : Nat} {ds : List D} {ρ' : Ev} {π' : Rt} (h : s (ρ0 rt m ds) π = .nx ρ' π') : runB s rt m ds π = .ok (.dat .non) π' := by unfold runB; rw [h]

@[simp] theorem inst_non_int  : instM [.non, .raw (.ty "int")] π = .ok (.bl false) π := mk_ rfl
@[simp] theorem inst_non_bool  : instM [.non, .raw (.ty "bool")] π = .ok (.bl false) π := mk_ rfl
@[simp] theorem inst_non_str  : instM [.non, .raw (.ty "str")] π = .ok (.bl false) π := mk_ rfl
@[simp] theorem inst_non_tuple  : instM [.non, .raw (.ty "tuple")] π = .ok (.bl false) π := mk_ rfl
@[simp] theorem inst_non_list  : instM [.non, .raw (.ty "list")] π = .ok (.bl false) π := mk_ rfl
@[simp] theorem inst_non_dict  : instM [.non, .raw (.ty "dict")] π = .ok (.bl false) π := mk_ rfl
@[simp] theorem inst_bl_int (b : Bool) : instM [.bl b, .raw (.ty "int")] π = .ok (.bl true) π := mk_ rfl
@[simp] theorem inst_bl_bool (b : Bool) : instM [.bl b, .raw (.ty "bool")] π = .ok (.bl true) π := mk_ rfl
@[simp] theorem inst_bl_str (b : Bool) : instM [.bl b, .raw (.ty "str")] π = .ok (.bl false) π := mk_ rfl
@[simp] theorem inst_bl_tuple (b : Bool) : instM [.bl b, .raw (.ty "tuple")] π = .ok (.bl false) π := mk_ rfl
@[simp] theorem inst_bl_list (b : Bool) : instM [.bl b, .raw (.ty "list")] π = .ok (.bl false) π := mk_ rfl
@[simp] theorem inst_bl_dict (b : Bool) : instM [.bl b, .raw (.ty "dict")] π = .ok (.bl false) π := mk_ rfl
@[simp] theorem inst_int_int (i : Int) : instM [.int i, .raw (.ty "int")] π = .ok (.bl true) π := mk_ rfl
@[simp] theorem inst_int_bool (i : Int) : instM [.int i, .raw (.ty "bool")] π = .ok (.bl false) π := mk_ rfl
@[simp] theorem inst_int_str (i : Int) : instM [.int i, .raw (.ty "str")] π = .ok (.bl false) π := mk_ rfl
@[simp] theorem inst_int_tuple (i : Int) : instM [.int i, .raw (.ty "tuple")] π = .ok (.bl false) π := mk_ rfl
@[simp] theorem inst_int_list (i : Int) : instM [.int i, .raw (.ty "list")] π = .ok (.bl false) π := mk_ rfl
@[simp] theorem inst_int_dict (i : Int) : instM [.int i, .raw (.ty "dict")] π = .ok (.bl false) π := mk_ rfl
@[simp] theorem inst_str_int (s : Str) : instM [.str s, .raw (.ty "int")] π = .ok (.bl false) π := mk_ rfl
@[simp] theorem inst_str_bool (s : Str) : instM [.str s, .raw (.ty "bool")] π = .ok (.bl false) π := mk_ rfl
@[simp] theorem inst_str_str (s : Str) : instM [.str s, .raw (.ty "str")] π = .ok (.bl true) π := mk_ rfl
@[simp] theorem inst_str_tuple (s : Str) : instM [.str s, .raw (.ty "tuple")] π = .ok (.bl false) π := mk_ rfl
@[simp] theorem inst_str_list (s : Str) : instM [.str s, .raw (.ty "list")] π = .ok (.bl false) π := mk_ rfl
@[simp] theorem inst_str_dict (s : Str) : instM [.str s, .raw (.ty "dict")] π = .ok (.bl false) π := mk_ rfl
@[simp] theorem inst_tup_int (xs : List D) : instM [.tup xs, .raw (.ty "int")] π = .ok (.bl false) π := mk_ rfl
@[simp] theorem inst_tup_bool (xs : List D) : instM [.tup xs, .raw (.ty "bool")] π = .ok (.bl false) π := mk_ rfl
@[simp] theorem inst_tup_str (xs : List D) : instM [.tup xs, .raw (.ty "str")] π = .ok (.bl false) π := mk_ rfl
@[simp] theorem inst_tup_tuple (xs : List D) : instM [.tup xs, .raw (.ty "tuple")] π = .ok (.bl true) π := mk_ rfl
@[simp] theorem inst_tup_list (xs : List D) : instM [.tup xs, .raw (.ty "list")] π = .ok (.bl false) π := mk_ rfl
@[simp] theorem inst_tup_dict (xs : List D) : instM [.tup xs, .raw (.ty "dict")] π = .ok (.bl false) π := mk_ rfl
@[simp] theorem inst_lst_int (xs : List D) : instM [.lst xs, .raw (.ty "int")] π = .ok (.bl false) π := mk_ rfl
@[simp] theorem inst_lst_bool (xs : List D) : instM [.lst xs, .raw (.ty "bool")] π = .ok (.bl false) π := mk_ rfl
@[simp] theorem inst_lst_str (xs : List D) : instM [.lst xs, .raw (.ty "str")] π = .ok (.bl false) π := mk_ rfl
@[simp] theorem inst_lst_tuple (xs : List D) : instM [.lst xs, .raw (.ty "tuple")] π = .ok (.bl false) π := mk_ rfl
@[simp] theorem inst_lst_list (xs : List D) : instM [.lst xs, .raw (.ty "list")] π = .ok (.bl true) π := mk_ rfl
@[simp] theorem inst_lst_dict (xs : List D) : instM [.lst xs, .raw (.ty "dict")] π = .ok (.bl false) π := mk_ rfl
@[simp] theorem inst_dct_int (ks : List (Key × D)) : instM [.dct ks, .raw (.ty "int")] π = .ok (.bl false) π := mk_ rfl
@[simp] theorem inst_dct_bool (ks : List (Key × D)) : instM [.dct ks, .raw (.ty "bool")] π = .ok (.bl false) π := mk_ rfl
@[simp] theorem inst_dct_str (ks : List (Key × D)) : instM [.dct ks, .raw (.ty "str")] π = .ok (.bl false) π := mk_ rfl
@[simp] theorem inst_dct_tuple (ks : List (Key × D)) : instM [.dct ks, .raw (.ty "tuple")] π = .ok (.bl false) π := mk_ rfl
@[simp] theorem inst_dct_list (ks : List (Key × D)) : instM [.dct ks, .raw (.ty "list")] π = .ok (.bl false) π := mk_ rfl
@[simp] theorem inst_dct_dict (ks : List (Key × D)) : instM [.dct ks, .raw (.ty "dict")] π = .ok (.bl true) π := mk_ rfl
theorem atI_nat {xs : List D} (n : Nat) : atI xs (n : Int) = xs[n]? := by
  unfold atI ixN
  rw [if_pos (Int.natCast_nonneg n)]
  by_cases h : n < xs.length
  · rw [if_pos (by omega)]
    rfl
  · rw [if_neg (by omega), List.getElem?_eq_none (by omega)]
    rfl
@[simp] theorem atI_0 {xs : List D} : atI xs 0 = xs[0]? := atI_nat 0
@[simp] theorem atI_1 {xs : List D} : atI xs 1 = xs[1]? := atI_nat 1
@[simp] theorem atI_2 {xs : List D} : atI xs 2 = xs[2]? := atI_nat 2
@[simp] theorem atI_3 {xs : List D} : atI xs 3 = xs[3]? := atI_nat 3
@[simp] theorem atI_4 {xs : List D} : atI xs 4 = xs[4]? := atI_nat 4
@[simp] theorem atI_5 {xs : List D} : atI xs 5 = xs[5]? := atI_nat 5
@[simp] theorem atI_6 {xs : List D} : atI xs 6 = xs[6]? := atI_nat 6
@[simp] theorem atI_7 {xs : List D} : atI xs 7 = xs[7]? := atI_nat 7
@[simp] theorem atI_8 {xs : List D} : atI xs 8 = xs[8]? := atI_nat 8
@[simp] theorem atI_9 {xs : List D} : atI xs 9 = xs[9]? := atI_nat 9
@[simp] theorem atI_10 {xs : List D} : atI xs 10 = xs[10]? := atI_nat 10
@[simp] theorem atI_11 {xs : List D} : atI xs 11 = xs[11]? := atI_nat 11
@[simp] theorem atI_12 {xs : List D} : atI xs 12 = xs[12]? := atI_nat 12
theorem atI_neg1 {xs : List D} : atI xs (-1) = xs[xs.length - 1]? := by
  unfold atI ixN
  cases xs with
  | nil => rfl
  | cons a r =>
    have h : -((a :: r).length : Int) ≤ -1 := by simp; omega
    rw [if_neg (by decide), if_pos h]
    have : (-1 + ((a :: r).length : Int)).toNat = (a :: r).length - 1 := by omega
    rw [this]
    rfl
theorem setF_nat {xs : List D} {d : D} (n : Nat) : setF xs (.int (n : Int)) d = if n < xs.length then some (xs.set n d) else none := by
  show (ixN xs.length n).map _ = _
  unfold ixN
  rw [if_pos (Int.natCast_nonneg n)]
  by_cases h : n < xs.length
  · rw [if_pos (by omega), if_pos h]
    rfl
  · rw [if_neg (by omega), if_neg h]
    rfl
@[simp] theorem setF_0 {xs : List D} {d : D} : setF xs (.int 0) d = if 0 < xs.length then some (xs.set 0 d) else none := setF_nat 0
@[simp] theorem setF_1 {xs : List D} {d : D} : setF xs (.int 1) d = if 1 < xs.length then some (xs.set 1 d) else none := setF_nat 1
@[simp] theorem setF_2 {xs : List D} {d : D} : setF xs (.int 2) d = if 2 < xs.length then some (xs.set 2 d) else none := setF_nat 2
@[simp] theorem setF_3 {xs : List D} {d : D} : setF xs (.int 3) d = if 3 < xs.length then some (xs.set 3 d) else none := setF_nat 3
@[simp] theorem setF_4 {xs : List D} {d : D} : setF xs (.int 4) d = if 4 < xs.length then some (xs.set 4 d) else none := setF_nat 4
@[simp] theorem setF_5 {xs : List D} {d : D} : setF xs (.int 5) d = if 5 < xs.length then some (xs.set 5 d) else none := setF_nat 5
@[simp] theorem setF_6 {xs : List D} {d : D} : setF xs (.int 6) d = if 6 < xs.length then some (xs.set 6 d) else none := setF_nat 6
@[simp] theorem setF_7 {xs : List D} {d : D} : setF xs (.int 7) d = if 7 < xs.length then some (xs.set 7 d) else none := setF_nat 7
@[simp] theorem setF_8 {xs : List D} {d : D} : setF xs (.int 8) d = if 8 < xs.length then some (xs.set 8 d) else none := setF_nat 8
@[simp] theorem setF_9 {xs : List D} {d : D} : setF xs (.int 9) d = if 9 < xs.length then some (xs.set 9 d) else none := setF_nat 9
@[simp] theorem setF_10 {xs : List D} {d : D} : setF xs (.int 10) d = if 10 < xs.length then some (xs.set 10 d) else none := setF_nat 10
@[simp] theorem setF_11 {xs : List D} {d : D} : setF xs (.int 11) d = if 11 < xs.length then some (xs.set 11 d) else none := setF_nat 11
@[simp] theorem setF_12 {xs : List D} {d : D} : setF xs (.int 12) d = if 12 < xs.length then some (xs.set 12 d) else none := setF_nat 12
end
end DL

/-! equality, blocks, loops, in plain words. -/
namespace DL
open PySem PySem.Spec PyProof.Rows L2
section
theorem shaped_0 {p : PyData} (h : p.canLay0 = true) (d : p.depth ≤ 64) : SeqAt.shaped p = true := Bool.and_eq_true_iff.mpr ⟨h, decide_eq_true d⟩
theorem shp_int (i : Int) : SeqAt.shaped (.int i) = true := shaped_0 (by simp only [PyData.canLay0]) (by simp only [PyData.depth]; decide)
theorem shp_bl (i : Bool) : SeqAt.shaped (.bool i) = true := shaped_0 (by simp only [PyData.canLay0]) (by simp only [PyData.depth]; decide)
theorem shp_non : SeqAt.shaped .none = true := shaped_0 (by simp only [PyData.canLay0]) (by simp only [PyData.depth]; decide)
theorem shp_str {s : Str} (h : PyData.strOk s = true) : SeqAt.shaped (.str s) = true := shaped_0 (by simp only [PyData.canLay0]; exact h) (by simp only [PyData.depth]; decide)
theorem beq_dec {α : Type} [BEq α] [LawfulBEq α] [DecidableEq α] (a b : α) : (a == b) = decide (a = b) := by
  rw [Bool.eq_iff_iff, beq_iff_eq, decide_eq_true_eq]
@[simp] theorem eqB_int (i j : Int) : eqB (.int i) (.int j) = some (decide (i = j)) := by
  unfold eqB
  simp only [D.py, shp_int, Bool.and_self, if_true, PyData.eqv]
  rw [beq_dec]
@[simp] theorem eqB_bl (i j : Bool) : eqB (.bl i) (.bl j) = some (decide (i = j)) := by
  unfold eqB
  simp only [D.py, shp_bl, Bool.and_self, if_true, PyData.eqv]
  rw [beq_dec]
theorem eqB_str {i j : Str} (h1 : PyData.strOk i = true) (h2 : PyData.strOk j = true) : eqB (.str i) (.str j) = some (decide (i = j)) := by
  unfold eqB
  simp only [D.py, shp_str h1, shp_str h2, Bool.and_self, if_true, PyData.eqv]
  rw [beq_dec]
theorem shp_nil : SeqAt.shaped (.list []) = true := shaped_0 (by simp only [PyData.canLay0, PyData.canLayAll0]) (by simp only [PyData.depth, PyData.depthAll]; decide)
@[simp] theorem eqB_nil : eqB (.lst []) (.lst []) = some true := by
  unfold eqB
  simp only [D.py, D.pys, Option.map_some, shp_nil, Bool.and_self, if_true, PyData.eqv, PyData.eqvAll]
/-! blocks -/
variable {g : GM} {t : Ev → EM Bool} {f : Ev → EM D} {ρ : Ev} {π : Rt}
theorem compGo_map {h : D → D} : ∀ ds : List D, (∀ d ∈ ds, ∃ ρ', g d ρ = some ρ' ∧ t ρ' π = .ok true π ∧ f ρ' π = .ok (h d) π) → compGo g t f ρ ds π = .ok (ds.map h) π
  | [], _ => rfl
  | d :: ds, H => by
    obtain ⟨ρ', h1, h2, h3⟩ := H d List.mem_cons_self
    have ih := compGo_map (h := h) ds fun d hd => H d (List.mem_cons_of_mem _ hd)
    unfold compGo
    rw [em_bind, h1]
    show ((noX (t ρ') >>= _) : EM (List D)) π = _
    rw [em_bind, noX_ok h2]
    show ((noX (f ρ') >>= _) : EM (List D)) π = _
    rw [em_bind, noX_ok h3]
    show ((compGo g t f ρ ds >>= _) : EM (List D)) π = _
    rw [em_bind, ih]
    rfl
theorem compGo_filter {p : D → Bool} {h : D → D} : ∀ ds : List D, (∀ d ∈ ds, ∃ ρ', g d ρ = some ρ' ∧ t ρ' π = .ok (p d) π ∧ (p d = true → f ρ' π = .ok (h d) π)) → compGo g t f ρ ds π = .ok ((ds.filter p).map h) π
  | [], _ => rfl
  | d :: ds, H => by
    obtain ⟨ρ', h1, h2, h3⟩ := H d List.mem_cons_self
    have ih := compGo_filter (p := p) (h := h) ds fun d hd => H d (List.mem_cons_of_mem _ hd)
    unfold compGo
    rw [em_bind, h1]
    show ((noX (t ρ') >>= _) : EM (List D)) π = _
    rw [em_bind, noX_ok h2]
    cases hp : p d with
    | false =>
      rw [List.filter_cons_of_neg (by rw [hp]; decide)]
      exact ih
    | true =>
      rw [List.filter_cons_of_pos hp]
      show ((noX (f ρ') >>= _) : EM (List D)) π = _
      rw [em_bind, noX_ok (h3 hp)]
      show ((compGo g t f ρ ds >>= _) : EM (List D)) π = _
      rw [em_bind, ih]
      rfl
/-- a block whose items change the root -/
theorem compGo_draw {P : Rt → Prop} {Q : D → Prop} : ∀ (ds : List D) (π : Rt), P π → (∀ d ∈ ds, ∀ π, P π → ∃ ρ' d' π', g d ρ = some ρ' ∧ t ρ' π = .ok true π ∧ f ρ' π = .ok d' π' ∧ P π' ∧ Q d') → ∃ xs π', compGo g t f ρ ds π = .ok xs π' ∧ P π' ∧ xs.length = ds.length ∧ ∀ x ∈ xs, Q x
  | [], π, hp, _ => ⟨[], π, rfl, hp, rfl, fun _ z => by cases z⟩
  | d :: ds, π, hp, H => by
    obtain ⟨ρ', d', π1, h1, h2, h3, h4, h5⟩ := H d List.mem_cons_self π hp
    obtain ⟨xs, π', e, k1, k2, k3⟩ := compGo_draw ds π1 h4 fun d hd => H d (List.mem_cons_of_mem _ hd)
    refine ⟨d' :: xs, π', ?_, k1, by simp [k2], fun x hx => ?_⟩
    · unfold compGo
      rw [em_bind, h1]
      show ((noX (t ρ') >>= _) : EM (List D)) π = _
      rw [em_bind, noX_ok h2]
      show ((noX (f ρ') >>= _) : EM (List D)) π = _
      rw [em_bind, noX_ok h3]
      show ((compGo g t f ρ ds >>= _) : EM (List D)) π1 = _
      rw [em_bind, e]
      rfl
    · rcases List.mem_cons.mp hx with rfl | hx
      · exact h5
      · exact k3 x hx
/-! loops -/
/-- a loop that never leaves: an invariant of what was done -/
theorem forGo_inv {s : SM} {I : List D → Ev → Rt → Prop} : ∀ (ds done : List D) (ρ : Ev) (π : Rt), I done ρ π → (∀ done d ρ π, I done ρ π → ∃ ρ1 ρ' π', g d ρ = some ρ1 ∧ (s ρ1 π = .nx ρ' π' ∨ s ρ1 π = .ct ρ' π') ∧ I (done ++ [d]) ρ' π') → ∃ ρ' π', forGo g s ds ρ π = .nx ρ' π' ∧ I (done ++ ds) ρ' π'
  | [], done, ρ, π, h, _ => ⟨ρ, π, rfl, by rwa [List.append_nil]⟩
  | d :: ds, done, ρ, π, h, H => by
    obtain ⟨ρ1, ρ', π', h1, h2, h3⟩ := H done d ρ π h
    obtain ⟨ρ2, π2, e, k⟩ := forGo_inv ds (done ++ [d]) ρ' π' h3 H
    refine ⟨ρ2, π2, ?_, by simpa using k⟩
    unfold forGo
    simp only [h1]
    rcases h2 with h2 | h2 <;> (rw [h2]; exact e)
/-- the same over the items of the list -/
theorem forGo_all {s : SM} {I : Ev → Rt → Prop} : ∀ (ds : List D) (ρ : Ev) (π : Rt), I ρ π → (∀ d ∈ ds, ∀ ρ π, I ρ π → ∃ ρ1 ρ' π', g d ρ = some ρ1 ∧ (s ρ1 π = .nx ρ' π' ∨ s ρ1 π = .ct ρ' π') ∧ I ρ' π') → ∃ ρ' π', forGo g s ds ρ π = .nx ρ' π' ∧ I ρ' π'
  | [], ρ, π, h, _ => ⟨ρ, π, rfl, h⟩
  | d :: ds, ρ, π, h, H => by
    obtain ⟨ρ1, ρ', π', h1, h2, h3⟩ := H d List.mem_cons_self ρ π h
    obtain ⟨ρ2, π2, e, k⟩ := forGo_all ds ρ' π' h3 fun d hd => H d (List.mem_cons_of_mem _ hd)
    refine ⟨ρ2, π2, ?_, k⟩
    unfold forGo
    simp only [h1]
    rcases h2 with h2 | h2 <;> (rw [h2]; exact e)
theorem atI_get {α : Type} {xs : List α} {i : Int} (h0 : 0 ≤ i) (h1 : i.toNat < xs.length) : atI xs i = some xs[i.toNat] := by
  unfold atI ixN
  rw [if_pos h0, if_pos (by omega)]
  exact List.getElem?_eq_getElem h1
theorem rng_mem {lo : Int} {n : Nat} {d : D} (h : d ∈ rng lo n) : ∃ i : Int, d = .int i ∧ lo ≤ i ∧ i < lo + n := by
  obtain ⟨i, h1, rfl⟩ := List.mem_map.mp h
  have := List.mem_range.mp h1
  exact ⟨lo + i, rfl, by omega, by omega⟩
theorem rng_len {lo : Int} {n : Nat} : (rng lo n).length = n := by unfold rng; simp
/-! what can be told apart: no dicts, no objects -/
def fine : Nat → D → Bool
  | _, .non => true
  | _, .bl _ => true
  | _, .int _ => true
  | _, .str s => PyData.strOk s
  | n + 1, .tup xs => decide (xs.length ≤ most) && xs.all (fine n)
  | n + 1, .lst xs => decide (xs.length ≤ most) && xs.all (fine n)
  | _, _ => false
end
end DL

/-! facts of the head, for the printed walks. -/
namespace DL
open PySem PySem.Spec PyProof.Rows L2 LamX
def oexB (K : PySem.W.Frag) (C : Addr) : Bool := (match K.lookup C with
  | some ⟨.type t, _, .cls cd, sl⟩ => (match cd.mro, sl.toList with
    | .ref C' :: bm, [_, _, _, _, some (.builtin n), _] => decide (t = "type") && (C' == C && (n == "ValueError.__new__" && (!cd.hasDel && (cd.hasDict && PySem.HandSPX.refsVE bm))))
    | _, _ => false)
  | _ => false) && (decide (PySem.W.findIn K (.ref C) "__setattr__" = some (some (.builtin "object.__setattr__"))) && (decide (PySem.W.subIn K (.ref C) (.type "BaseException") = some true) && (decide (PySem.W.typeIn K (.ref C) = some (.type "type")) && PySem.W.keepIn K (.ref C))))
theorem oexB_ok {K : PySem.W.Frag} {C : Addr} (h : oexB K C = true) : OexC K C := by
  obtain ⟨h1, h⟩ := Bool.and_eq_true_iff.mp h
  obtain ⟨h2, h⟩ := Bool.and_eq_true_iff.mp h
  obtain ⟨h3, h⟩ := Bool.and_eq_true_iff.mp h
  obtain ⟨h4, h5⟩ := Bool.and_eq_true_iff.mp h
  refine ⟨?_, of_decide_eq_true h2, of_decide_eq_true h3, of_decide_eq_true h4, h5⟩
  split at h1
  · rename_i t dd cd sl ho
    split at h1
    · rename_i C' bm k0 k1 k2 k3 n k5 hm hs
      simp only [Bool.and_eq_true, beq_iff_eq, Bool.not_eq_true', decide_eq_true_eq] at h1
      obtain ⟨rfl, rfl, rfl, a4, a5, a6⟩ := h1
      obtain ⟨nm, bs, mro, ns, qn, hd, sn, sub, ab, col, del⟩ := cd
      dsimp only at hm a4 a5
      subst hm a4 a5
      obtain ⟨l⟩ := sl
      simp only at hs
      subst hs
      exact ⟨nm, qn, ns, bs, bm, sn, sub, ab, col, dd, k0, k1, k2, k3, k5, ho, a6⟩
    · cases h1
  · cases h1
def initB (K : PySem.W.Frag) (x : Str) (names : List Str) : Bool := oexB K (He.ga K x) && (decide (PySem.W.findIn K (.ref (He.ga K x)) "__init__" = some (some (.ref (He.ma K (He.ga K x) "__init__")))) && (decide (PySem.W.typeIn K (.ref (He.ma K (He.ga K x) "__init__")) = some (.type "function")) && names.all fun f => decide (PySem.W.findIn K (.ref (He.ga K x)) f = some none)))
section
variable {P : Program} {w : World} {K : PySem.W.Frag} {mg : Str → Option Value} {base : Heap}
theorem exI_of {x : Str} {names ps : List Str} {fd : FuncData} (hm : mg x = some (.ref (He.ga K x))) (h : initB K x names = true) (F : FnOk P w K mg base (L2.CX P w) 1 (He.ma K (He.ga K x) "__init__") fd ps (spX K names)) (hb : L2.Binds K fd ps []) : ExI P w K mg base x 1 names := by
  obtain ⟨h1, h⟩ := Bool.and_eq_true_iff.mp h
  obtain ⟨h2, h⟩ := Bool.and_eq_true_iff.mp h
  obtain ⟨h3, h4⟩ := Bool.and_eq_true_iff.mp h
  exact ⟨_, _, fd, ps, hm, oexB_ok h1, of_decide_eq_true h2, of_decide_eq_true h3, F, hb, fun f hf => of_decide_eq_true (List.all_eq_true.mp h4 f hf)⟩
theorem exN_of {x : Str} (hm : mg x = some (.ref (He.ga K x))) (h : (He.Fa.exc x).ok K = true) : ExN K mg x := by
  obtain ⟨h1, h2, h3, h4⟩ := He.exc_ok h
  exact ⟨_, hm, h1, h2, h3, h4⟩
def tabFa (tab : DL.Tab) (C : Str) (K : PySem.W.Frag) : Bool := tab.all fun p => (He.Fa.glo p.1).ok K && (He.Fa.exm p.1 C p.2).ok K
theorem tabFa_ok {h : Heap} {tab : DL.Tab} {C : Str} (X : K.In h) (G : h.Ns mainGlobals mg) (c : tabFa tab C K = true) : ∀ p ∈ tab, ∃ C1, mg p.1 = some (.ref C1) ∧ PySem.W.exmOne K (.ref C1) (.ref (He.ga K C)) = some p.2 := fun p hp => by
  obtain ⟨h1, h2⟩ := Bool.and_eq_true_iff.mp (List.all_eq_true.mp c p hp)
  exact ⟨_, He.glo_ok X G h1, He.exm_ok h2⟩
def xfFa (cs : List Str) (f : Str) (K : PySem.W.Frag) : Bool := cs.all fun c => (He.Fa.glo c).ok K && (xfB K (He.ga K c) && decide (PySem.W.findIn K (.ref (He.ga K c)) f = some none))
theorem xfFa_ok {h : Heap} {cs : List Str} {f : Str} (X : K.In h) (G : h.Ns mainGlobals mg) (c : xfFa cs f K = true) : XfT K mg cs f := fun p hp => by
  obtain ⟨h1, h2⟩ := Bool.and_eq_true_iff.mp (List.all_eq_true.mp c p hp)
  obtain ⟨h3, h4⟩ := Bool.and_eq_true_iff.mp h2
  exact ⟨_, He.glo_ok X G h1, xfB_ok h3, of_decide_eq_true h4⟩
/-- the law's end -/
theorem lawAt {l : PySem.W.OpenLaw} {h : Heap} {st : Stmt} {fd : FuncData} {N : List Str} {m k : Nat} {s : SM} {c Pt : Addr} (F : FunD K "law" "law" (defArgs st) (defBody st) (defScope st) [] [] (He.fAd K ("law", none)) fd)
    (ec : He.cT K ("law", none) = (c, Pt)) (e1 : h.get? Pt = some { cls := .none, data := .fields #[] }) (e2 : K.lookup Pt = none) (e3 : PySem.W.CodeHd h c Pt) (S : FnScope N ["script"] (defScope st)) (hm : N.length = 1 + m)
    (hb : ∀ (kV doc pm : Value) (an : Option Addr) (cdv ct u : Value), bindArgs (PySem.W.fnOf "law" "law" (defArgs st) (defBody st) (defScope st) .none kV doc pm an cdv ct) ⟨[u], []⟩ = pure [(("script" : Str), u)])
    (hbody : ∀ (base : Heap), K.In base → base.Ns mainGlobals mg → TabB base mg c Pt → ∀ (A : Around) (outer : List Env) (sh : Shared) (H : Hp) (E : XK) (wd : Wd), LamW [(Pt, "law.<locals>.<lambda>")] wd → wd.r = none → Room k (A.deeper (envOfC "law" (defScope st) sh.heap.objs.size (He.fAd K ("law", none)) (.ref c))) →
      DSs (cxOf (L2.CX l.prog w) l.prog w K mg base N "law" (defScope st) (He.fAd K ("law", none)) (.ref c) A outer sh H E) wd (fun _ => E) (defBody st) s)
    (hlaw : ∀ ns : List Int, ns.length ≤ 63 → (∀ z ∈ ns, Builtin.Int.intBits z ≤ 1048576) → ∃ ρ' π', s (some (.dat (.frz (ns.map D.int))) :: List.replicate m none) .no = .ret (.dat (.bl true)) ρ' π') :
    LawAtS l w K (L2.CX l.prog w) (k + 1) 63 "script" mg (He.fAd K ("law", none)) h := by
  obtain ⟨⟨oc, od, dV, kV, doc, pm, an, cdv, ct, osl, efd, lk, hcd, hd, _⟩, kp⟩ := F
  have hdV : dV = .none := by
    rcases hd with ⟨_, h⟩ | ⟨z, _⟩
    · exact h
    · exact (z rfl).elim
  subst hdV
  subst efd
  obtain ⟨c', rfl⟩ := He.codeIn_ref hcd
  have ecc : He.codeOf K ("law", none) = c' := He.codeOf_eq lk rfl
  have hc : c' = c := by
    have := congrArg Prod.fst ec
    rw [← ecc]
    exact this
  subst hc
  refine ⟨PySem.W.fnOf "law" "law" (defArgs st) (defBody st) (defScope st) .none kV doc pm an (.ref c') ct, [(c', Pt)], spLaw (K := K) Pt "law.<locals>.<lambda>", fun p hp => ?_, fun p hp => ?_, fun p hp => ?_, fun sh u => ?_, fun H a ns hl hbits hH hS => ?_, fun base X G TB => ?_⟩
  · cases List.mem_singleton.mp hp; exact e1
  · cases List.mem_singleton.mp hp; exact e2
  · cases List.mem_singleton.mp hp; exact e3
  · exact BindsTo.of_eq (hb _ _ _ _ _ _ _)
  · exact ⟨a, ns, rfl, hS, hH _ List.mem_cons_self, hl, hbits, fun _ => rfl⟩
  · exact law_mk lk hcd S hm (fun A outer sh H E wd hw hr hroom => hbody base X G (TB _ List.mem_cons_self) A outer sh H E wd hw hr hroom) hlaw
end
end DL

/-! zip, enumerate over lists, tuples, texts. -/
namespace DL
open PySem PySem.Spec PyProof.Rows L2 LamX PySem.W
/-- what is gone through: a list, a tuple, a text -/
inductive Sk where
  | lst (a : Addr)
  | tup (a : Addr)
  | str (x : Str)
def Sk.v : Sk → V
  | .lst a => .ref a
  | .tup a => .ref a
  | .str x => .str x
def Sk.rep (K : PySem.W.Frag) (H : Hp) : Sk → List V → Prop
  | .lst a, xs => SqL K H a xs
  | .tup a, xs => SqT K H a xs
  | .str x, xs => xs = x.cps.toList.map fun c => V.str ⟨#[c]⟩
def Sk.it (it : Addr) (i : Nat) (h : Heap) : Sk → Prop
  | .lst a => h.IsListIter it a i
  | .tup a => h.IsTupleIter it a i
  | .str x => ∃ t, h.IsStrIter it (strIterType x) x t i
def Sk.fp (it : Addr) : Sk → List Addr
  | .lst a => [it, a]
  | .tup a => [it, a]
  | .str _ => [it]
/-- not the thing itself -/
def Sk.apart (b : Addr) : Sk → Prop
  | .lst a => b ≠ a
  | .tup a => b ≠ a
  | .str _ => True
section
variable {X : Cx} {pins : List (Addr × Obj)} {σ : L2.St} {H : Hp} {s : Shared}
theorem Sk.it_at {k : Sk} {it : Addr} {i : Nat} {h h' : Heap} (st : k.it it i h) (e : ∀ o, h.get? it = some o → h'.get? it = some o) : k.it it i h' := by
  cases k with
  | lst a => exact Heap.IsListIter.at st e
  | tup a => exact Heap.IsTupleIter.at st e
  | str x =>
    obtain ⟨t, o, ho, r⟩ := st
    exact ⟨t, o, e o ho, r⟩
theorem Sk.it_obj {k : Sk} {it : Addr} {i : Nat} {h : Heap} (st : k.it it i h) : ∃ o, h.get? it = some o ∧ ∀ v, o.data ≠ .cell v := by
  cases k with
  | lst a =>
    obtain ⟨o, h1, h2, h3⟩ := st
    exact ⟨o, h1, fun v z => by rw [h3] at z; cases z⟩
  | tup a =>
    obtain ⟨o, h1, h2, h3⟩ := st
    exact ⟨o, h1, fun v z => by rw [h3] at z; cases z⟩
  | str x =>
    obtain ⟨t, o, h1, h2, h3⟩ := st
    exact ⟨o, h1, fun v z => by rw [h3] at z; cases z⟩
theorem Sk.rep_inj {k : Sk} (I : Inv X pins σ H s) {xs ys : List V} (h : k.rep X.K H xs) (h' : k.rep X.K H ys) : xs = ys := by
  cases k with
  | lst a => exact I.list_inj h h'
  | tup a => exact I.tuple_inj h h'
  | str x => exact h.trans h'.symm
theorem vals_back {xs : List V} {us : List Value} (r : Vals xs us) {i : Nat} {u : Value} (h : us[i]? = some u) : ∃ v, xs[i]? = some v ∧ RelV v u := by
  obtain ⟨hl, rfl⟩ := List.getElem?_eq_some_iff.mp h
  have hx : i < xs.length := by rw [r.length]; exact hl
  obtain ⟨u, h1, h2⟩ := r.get (List.getElem?_eq_getElem hx)
  rw [List.getElem?_eq_getElem hl] at h1
  cases h1
  exact ⟨_, List.getElem?_eq_getElem hx, h2⟩
/-- what it draws -/
theorem Sk.draws {k : Sk} (I : Inv X pins σ H s) {xs : List V} (h : k.rep X.K H xs) (A : Around) (hh : A.handled = none) (it : Addr) (hit : k.apart it) {i : Nat} (st : k.it it i s.heap) :
    ∃ (P : Nat → Value → Prop) (St : Nat → Heap → Prop), Draws X.prog X.w A it (k.fp it) xs.length P St ∧ (∀ i x, P i x → ∃ v, xs[i]? = some v ∧ RelV v x) ∧ St i s.heap ∧ ∀ i h', St i h' → k.it it i h' := by
  cases k with
  | lst a =>
    obtain ⟨its, r, p, _⟩ := I.list h
    have D := Draws.list (prog := X.prog) (w := X.w) hh it a (Ne.symm hit) its.toArray
    have e : its.toArray.size = xs.length := by rw [r.length]; simp
    rw [e] at D
    exact ⟨_, _, D, fun i x e => vals_back r (by simpa using e), ⟨st, p.isList⟩, fun i h' st => st.1⟩
  | tup a =>
    obtain ⟨its, r, p, _⟩ := I.tuple h
    have D := Draws.tuple (prog := X.prog) (w := X.w) hh it a (Ne.symm hit) its.toArray
    have e : its.toArray.size = xs.length := by rw [r.length]; simp
    rw [e] at D
    exact ⟨_, _, D, fun i x e => vals_back r (by simpa using e), ⟨st, p⟩, fun i h' st => st.1⟩
  | str x =>
    obtain ⟨t, st⟩ := st
    have D := Draws.text (prog := X.prog) (w := X.w) hh it x t
    have h : xs = x.cps.toList.map fun c => V.str ⟨#[c]⟩ := h
    have e : x.cps.size = xs.length := by rw [h]; simp
    rw [e] at D
    refine ⟨_, _, D, fun i v e => ?_, st, fun i h' st => ⟨t, st⟩⟩
    obtain ⟨c, u, h1, rfl⟩ := e
    refine ⟨.str ⟨#[c]⟩, ?_, u, rfl⟩
    rw [h, List.getElem?_map]
    have : x.cps.toList[i]? = some c := by simpa using h1
    rw [this]
    rfl
/-! ### zip -/
def ItZ (K : PySem.W.Frag) (k1 k2 : Sk) : It :=
  ⟨fun i H => ∃ (xs ys : List V) (x y : V), k1.rep K H xs ∧ k2.rep K H ys ∧ xs[i]? = some x ∧ ys[i]? = some y,
    fun i H v H' => ∃ T x y, v = .ref T ∧ H T = none ∧ H' = upd H T (.tup [x, y]) ∧ (∀ xs, k1.rep K H xs → xs[i]? = some x) ∧ ∀ ys, k2.rep K H ys → ys[i]? = some y,
    fun i H => ∃ xs ys : List V, k1.rep K H xs ∧ k2.rep K H ys ∧ i ≤ xs.length ∧ i ≤ ys.length ∧ (i = xs.length ∨ i = ys.length)⟩
theorem turnZ {P : Program} {w : World} {K : PySem.W.Frag} {elts : List Expr} {kk : Nat} {tpos : Pos} {k1 k2 : Sk} {z TI TO i1 i2 : Addr} (D : ZipSep2 z TI TO i1 i2 (k1.fp i1) (k2.fp i2)) (ha1 : k1.apart i1) (ha2 : k2.apart i2) :
    Turn P w K (.Tuple elts kk tpos) (ItZ K k1 k2) [z, TI, TO, i1, i2] z (fun i h => IsZip h z TI TO .none ∧ IsTupOf2 h TI (.ref i1) (.ref i2) ∧ (∃ x y, IsTupOf2 h TO x y) ∧ k1.it i1 i h ∧ k2.it i2 i h) where
  mem := by simp
  obj := fun i h st c hc => by
    obtain ⟨hz, hTI, ⟨x, y, hTO⟩, h1, h2⟩ := st
    have e' : c = z ∨ c = TI ∨ c = TO ∨ c = i1 ∨ c = i2 := by simpa using hc
    rcases e' with rfl | rfl | rfl | rfl | rfl
    · exact ⟨_, hz, fun v q => nomatch q⟩
    · exact ⟨_, hTI, fun v q => nomatch q⟩
    · exact ⟨_, hTO, fun v q => nomatch q⟩
    · exact Sk.it_obj h1
    · exact Sk.it_obj h2
  keep := fun i h h' st k => by
    obtain ⟨hz, hTI, ⟨x, y, hTO⟩, h1, h2⟩ := st
    exact ⟨k z (by simp) _ hz, k TI (by simp) _ hTI, ⟨x, y, k TO (by simp) _ hTO⟩, Sk.it_at h1 fun o q => k i1 (by simp) o q, Sk.it_at h2 fun o q => k i2 (by simp) o q⟩
  item := by
    intro X hP hw hK hc i pins s σ H E I hf st hg
    subst hP hw hK
    obtain ⟨hz, hTI, ⟨x0, y0, hTO⟩, h1, h2⟩ := st
    obtain ⟨xs, ys, x, y, hqx, hqy, hx, hy⟩ := hg
    have hd : X.A.in1.handled = none := I.ok.hd hc
    obtain ⟨P1, St1, D1, p1, s1, b1⟩ := Sk.draws I hqx X.A.in1 hd i1 ha1 h1
    obtain ⟨P2, St2, D2, p2, s2, b2⟩ := Sk.draws I hqy X.A.in1 hd i2 ha2 h2
    have hzl : z < s.heap.objs.size := Heap.lt_size hz
    have l1 := (List.getElem?_eq_some_iff.mp hx).1
    have l2 := (List.getElem?_eq_some_iff.mp hy).1
    refine wpAny_pyNext_zipD2_item D D1 D2 hz hTI hTO s1 s2 l1 l2 fun u u2 h' tk y1 y2 z' TO' d1 d2 hT hsz hk => ?_
    obtain ⟨x', e1, ru⟩ := p1 _ _ y1
    obtain ⟨y', e2, ru2⟩ := p2 _ _ y2
    rw [hx] at e1
    cases e1
    rw [hy] at e2
    cases e2
    refine ⟨_, rfl, wpAny_letOwnedTupleGo_zip (s := { s with heap := h', toks := tk }) z' fun h'' z'' sb => ?_⟩
    have hT2 : h''.get? s.heap.objs.size = some { cls := .type "tuple", data := .seq #[u, u2] } := (sb.2 _ (Nat.ne_of_gt hzl)).trans hT
    have new : ObjOk X.prog X.w (upd H s.heap.objs.size (.tup [x, y])) h'' s.heap.objs.size (.tup [x, y]) :=
      ⟨by show 2 ≤ sizeLine; decide, [u, u2], .cons ru (.cons ru2 .nil), ⟨_, hT2, rfl, _, rfl⟩⟩
    have I1 : Inv X pins σ (upd H s.heap.objs.size (.tup [x, y])) { s with heap := h'', toks := tk } :=
      I.turnedNew (t' := tk) (ch := [z, TI, TO, i1, i2]) (fun c o hb q => (sb.2 c (fun q' => hb (by simp [q']))).trans (hk c o (fun q' => hb (by simp [q'])) (fun q' => hb (by simp [q'])) (fun q' => hb (by simp [q'])) (fun q' => hb (by simp [q'])) q)) hf (Nat.le_refl _) new
    refine ⟨.ref s.heap.objs.size, _, I1, rfl, ⟨_, x, y, rfl, I.hok.fresh (Nat.le_refl _), rfl, fun l hl => by rw [Sk.rep_inj I hl hqx]; exact hx, fun l hl => by rw [Sk.rep_inj I hl hqy]; exact hy⟩, ⟨z'', ?_, ⟨u, u2, ?_⟩, ?_, ?_⟩, fun c hcm => ?_⟩
    · exact (sb.2 _ D.TIz).trans (hk _ _ D.TIz D.TITO D.TIi1 D.TIi2 hTI)
    · exact (sb.2 _ D.TOz).trans TO'
    · exact Sk.it_at (b1 _ _ d1) fun o q => (sb.2 _ (Ne.symm D.zi1)).trans q
    · exact Sk.it_at (b2 _ _ d2) fun o q => (sb.2 _ (Ne.symm D.zi2)).trans q
    · have hlt : c < s.heap.objs.size := by
        have e' : c = z ∨ c = TI ∨ c = TO ∨ c = i1 ∨ c = i2 := by simpa using hcm
        rcases e' with rfl | rfl | rfl | rfl | rfl
        · exact hzl
        · exact Heap.lt_size hTI
        · exact Heap.lt_size hTO
        · obtain ⟨_, e1, _⟩ := Sk.it_obj h1; exact Heap.lt_size e1
        · obtain ⟨_, e2, _⟩ := Sk.it_obj h2; exact Heap.lt_size e2
      rw [upd_ne (Nat.ne_of_lt hlt)]
      exact (hf c hcm).1
  done := by
    intro X hP hw hK hc i pins s σ H E I hf st hg
    subst hP hw hK
    obtain ⟨hz, hTI, ⟨x0, y0, hTO⟩, h1, h2⟩ := st
    obtain ⟨xs, ys, hqx, hqy, l1, l2, hend⟩ := hg
    have hd : X.A.in1.handled = none := I.ok.hd hc
    obtain ⟨P1, St1, D1, p1, s1, b1⟩ := Sk.draws I hqx X.A.in1 hd i1 ha1 h1
    obtain ⟨P2, St2, D2, p2, s2, b2⟩ := Sk.draws I hqy X.A.in1 hd i2 ha2 h2
    exact wpAny_pyNext_zipD2_end D D1 D2 hz hTI hTO s1 s2 l1 l2 hend fun h' tk hk => ⟨rfl, I.turnedL (t' := tk) (ch := [z, TI, TO, i1, i2]) (fun c o hb q =>
      hk c o (fun q' => hb (by simp [q'])) (fun q' => hb (by simp [q'])) (fun q' => hb (by simp [q'])) (fun q' => hb (by simp [q'])) q) hf⟩
  self := fun A i s Q E st h => wpAny_pyIter_zip st.1 h

end
/-- which source a value is -/
def skOf : V → D → Sk
  | .ref a, .lst _ => .lst a
  | .ref a, .tup _ => .tup a
  | .str x, _ => .str x
  | _, _ => .str ⟨#[]⟩
section
variable {X : Cx}
theorem sk_items {wd : Wd} {O : Own} {G : Hp} {σ : L2.St} {H : Hp} {ρ : Ev} {π : Rt} {v : V} {d : D} {ds : List D} {π1 π' : Rt} (R : RW (md X) wd O G σ H ρ π) (h : rB X O G H v d) (e : itemsM d π1 = .ok ds π') : (skOf v d).v = v ∧ ∃ vs, (skOf v d).rep X.K H vs ∧ DpAll (md X) G vs ds := by
  unfold itemsM at e
  split at e
  · cases e
    obtain ⟨a, vs, rfl, h1, h2⟩ := h.i_lst R
    exact ⟨rfl, vs, SqL.of h1, h2⟩
  · cases e
    obtain ⟨a, vs, rfl, h1, h2, _⟩ := h.i_tup R
    exact ⟨rfl, vs, h1, h2⟩
  · next z =>
    cases e
    obtain rfl := h.i_str
    refine ⟨rfl, _, rfl, ?_⟩
    unfold chars
    generalize z.cps.toList = l
    induction l with
    | nil => exact .nil
    | cons c r ih => exact .cons (.str _) ih
  · cases e
theorem items_pi {d : D} {ds : List D} {π π' : Rt} (e : itemsM d π = .ok ds π') : π' = π ∧ ∀ π2, itemsM d π2 = .ok ds π2 := by
  unfold itemsM at e ⊢
  split at e <;> cases e
  · exact ⟨rfl, fun _ => rfl⟩
  · exact ⟨rfl, fun _ => rfl⟩
  · exact ⟨rfl, fun _ => rfl⟩
theorem items_ok {d : D} {π : Rt} {α : Type} {k : List D → Rt → Out α} (h : (itemsM d π).bind k ≠ .bad) : ∃ ds, itemsM d π = .ok ds π ∧ (itemsM d π).bind k = k ds π := by
  cases e : itemsM d π with
  | ok ds π' =>
    obtain ⟨rfl, _⟩ := items_pi e
    exact ⟨ds, rfl, rfl⟩
  | exc x π' => unfold itemsM at e; split at e <;> cases e
  | bad => rw [e] at h; exact (h rfl).elim
theorem post_ne {wd : Wd} {W : WS} {α β : Type} {rep : Own → Hp → Hp → β → α → Prop} {O : Own} {G : Hp} {σ : L2.St} {H : Hp} {ρ : Ev} {Q : β → Hp → Prop} {o : Out α} (h : Post X wd W rep O G σ H ρ Q o) : o ≠ .bad := fun e => by rw [e] at h; exact h
end
def zip2M : List D → EM (List D)
  | [d, e] => do
    let xs ← itemsM d
    let ys ← itemsM e
    pure ((xs.zip ys).map fun p => .tup [p.1, p.2])
  | _ => EM.bad
def iZ (K : PySem.W.Frag) (ta : TA) : L2.TI := fun σ H R => ta σ H fun vs H1 => ∃ k1 k2 xs ys, vs = [k1.v, k2.v] ∧ k1.rep K H1 xs ∧ k2.rep K H1 ys ∧ R (ItZ K k1 k2) H1
section
variable {X : Cx} {pins : List (Addr × Obj)} {σ : L2.St} {H : Hp} {s : Shared}
/-- what the iterator begins with -/
theorem Sk.begin {k : Sk} (I : Inv X pins σ H s) {xs : List V} (h : k.rep X.K H xs) {u : Value} (hu : RelV k.v u) : ∃ (o : Obj) (C : Heap → Prop), Begins u o C ∧ C s.heap ∧ (∀ h' it, h'.get? it = some o → k.it it 0 h') ∧ ∀ b, s.heap.objs.size ≤ b → k.apart b := by
  cases k with
  | lst a =>
    obtain rfl : u = .ref a := hu
    obtain ⟨its, r, p, _⟩ := I.list h
    have hl := p.lt
    exact ⟨_, _, begins_list a its.toArray, p.isList, fun h' it e => ⟨_, e, rfl, rfl⟩, fun b hb => Nat.ne_of_gt (Nat.lt_of_lt_of_le hl hb)⟩
  | tup a =>
    obtain rfl : u = .ref a := hu
    obtain ⟨its, r, p, _⟩ := I.tuple h
    obtain ⟨o, ho, _⟩ := id p
    have hl := Heap.lt_size ho
    exact ⟨_, _, begins_tuple a its.toArray, p, fun h' it e => ⟨_, e, rfl, rfl⟩, fun b hb => Nat.ne_of_gt (Nat.lt_of_lt_of_le hl hb)⟩
  | str x =>
    obtain ⟨t, rfl⟩ := (show ∃ t, u = Value.str x t from hu)
    exact ⟨_, _, begins_text x t, True.intro, fun h' it e => ⟨t, _, e, rfl, rfl⟩, fun b hb => True.intro⟩
theorem pi_zz {e e2 : Expr} {ta : TA} {p pos tpos : Pos} {elts : List Expr} {kk : Nat} (hg : Gl X "zip") (hm : X.mg "zip" = none) (ha : PA X [e, e2] ta)
    (hs : starEach [e, e2] X.env = (false, eval e X.env) :: starEach [e2] X.env := by rfl) (hpl : (backTo pos (starEach [e2] X.env)).any (·.1) = false := by rfl) :
    PI X (.Tuple elts kk tpos) (.Call (.Name "zip" p) [e, e2] [] pos) (iZ X.K ta) := by
  constructor
  intro pins s σ H R I h
  refine Call_ (ld_blt I hg hm PyProof.Rows.boot_zip (PyProof.Rows.callWith_type1 (thn (ha.run pos pins s σ H _ I h) fun us s1 z => ?_) hs hpl))
  obtain ⟨vs, H1, I1, r1, k1, k2, xs, ys, rfl, hx, hy, q⟩ := z
  obtain ⟨u1, u2, rfl, ru1, ru2⟩ := Vals.two r1
  obtain ⟨o1, C1, B1, c1, it1, ap1⟩ := Sk.begin I1 hx ru1
  obtain ⟨o2, C2, B2, c2, it2, ap2⟩ := Sk.begin I1 hy ru2
  refine zip_begins2 B1 B2 c1 c2 fun h' hz hTI hTO g1 g2 hsz hk => wpAny_pyIter_zip hz ?_
  have I2 : Inv X pins σ H1 { s1 with heap := h' } := I1.kept (t' := s1.toks) hk
  have sep : ZipSep2 (s1.heap.objs.size + 4) (s1.heap.objs.size + 2) (s1.heap.objs.size + 3) s1.heap.objs.size (s1.heap.objs.size + 1) (k1.fp s1.heap.objs.size) (k2.fp (s1.heap.objs.size + 1)) := by
    have f1 : ∃ fp, k1.fp s1.heap.objs.size = s1.heap.objs.size :: fp ∧ ∀ b ∈ fp, b < s1.heap.objs.size := by
      cases k1 with
      | lst a => obtain ⟨_, _, p, _⟩ := I1.list hx; exact ⟨[a], rfl, fun b hb => by rw [List.mem_singleton.mp hb]; exact p.lt⟩
      | tup a => obtain ⟨_, _, p, _⟩ := I1.tuple hx; obtain ⟨o, ho, _⟩ := id p; exact ⟨[a], rfl, fun b hb => by rw [List.mem_singleton.mp hb]; exact Heap.lt_size ho⟩
      | str x => exact ⟨[], rfl, fun b hb => by cases hb⟩
    have f2 : ∃ fp, k2.fp (s1.heap.objs.size + 1) = (s1.heap.objs.size + 1) :: fp ∧ ∀ b ∈ fp, b < s1.heap.objs.size := by
      cases k2 with
      | lst a => obtain ⟨_, _, p, _⟩ := I1.list hy; exact ⟨[a], rfl, fun b hb => by rw [List.mem_singleton.mp hb]; exact p.lt⟩
      | tup a => obtain ⟨_, _, p, _⟩ := I1.tuple hy; obtain ⟨o, ho, _⟩ := id p; exact ⟨[a], rfl, fun b hb => by rw [List.mem_singleton.mp hb]; exact Heap.lt_size ho⟩
      | str x => exact ⟨[], rfl, fun b hb => by cases hb⟩
    obtain ⟨fp1, e1, l1⟩ := f1
    obtain ⟨fp2, e2, l2⟩ := f2
    rw [e1, e2]
    exact zip_sep2 l1 l2
  refine ⟨s1.heap.objs.size + 4, [s1.heap.objs.size + 4, s1.heap.objs.size + 2, s1.heap.objs.size + 3, s1.heap.objs.size, s1.heap.objs.size + 1], _, _, H1, rfl, I2, turnZ sep (ap1 _ (Nat.le_refl _)) (ap2 _ (Nat.le_succ _)), ⟨hz, hTI, ⟨_, _, hTO⟩, it1 _ _ g1, it2 _ _ g2⟩, fun c hcm => ?_, q⟩
  have e' : c = s1.heap.objs.size + 4 ∨ c = s1.heap.objs.size + 2 ∨ c = s1.heap.objs.size + 3 ∨ c = s1.heap.objs.size ∨ c = s1.heap.objs.size + 1 := by simpa using hcm
  have hle : s1.heap.objs.size ≤ c := by
    rcases e' with z | z | z | z | z
    all_goals (rw [z]; first | exact Nat.le_refl _ | exact Nat.le_add_right _ _)
  exact I1.fpOk hle (I1.hok.fresh hle)

theorem post_zip {wd : Wd} {W : WS} {β : Type} {rep : Own → Hp → Hp → β → List D → Prop} {O : Own} {G : Hp} {σ : L2.St} {H : Hp} {ρ : Ev} {Q : β → Hp → Prop} {ds : List D} {π : Rt} (h : Post X wd W rep O G σ H ρ Q (zip2M ds π)) :
    ∃ d e xs ys, ds = [d, e] ∧ itemsM d π = .ok xs π ∧ itemsM e π = .ok ys π ∧ Post X wd W rep O G σ H ρ Q (.ok ((xs.zip ys).map fun p => .tup [p.1, p.2]) π) := by
  match ds, h with
  | [d, e], h =>
    have h : Post X wd W rep O G σ H ρ Q ((itemsM d π).bind fun xs π1 => (itemsM e π1).bind fun ys π2 => .ok ((xs.zip ys).map fun p => .tup [p.1, p.2]) π2) := h
    obtain ⟨xs, ex, e1⟩ := items_ok (post_ne h)
    rw [e1] at h
    obtain ⟨ys, ey, e2⟩ := items_ok (post_ne h)
    rw [e2] at h
    exact ⟨d, e, xs, ys, rfl, ex, ey, h⟩
  | [], h => exact h.elim
  | [_], h => exact h.elim
  | _ :: _ :: _ :: _, h => exact h.elim
theorem it_zip {wd : Wd} {O : Own} {G : Hp} {σ : L2.St} {H : Hp} {ρ : Ev} {π : Rt} {k1 k2 : Sk} {vs1 vs2 : List V} {xs ys : List D} (R : RW (md X) wd O G σ H ρ π) (h1 : k1.rep X.K H vs1) (h2 : k2.rep X.K H vs2) (d1 : DpAll (md X) G vs1 xs) (d2 : DpAll (md X) G vs2 ys) (i : Nat) :
    ItAt X wd (ItZ X.K k1 k2) ((xs.zip ys).map fun p => .tup [p.1, p.2]) i O G σ H ρ π := by
  refine ⟨fun d hd => ?_, fun hn => ?_⟩
  · rw [List.getElem?_map] at hd
    obtain ⟨⟨x, y⟩, hz, rfl⟩ := Option.map_eq_some_iff.mp hd
    obtain ⟨e1, e2⟩ := List.getElem?_zip_eq_some.mp hz
    obtain ⟨v1, a1, a2⟩ := d1.get e1
    obtain ⟨v2, b1, b2⟩ := d2.get e2
    refine ⟨⟨vs1, vs2, v1, v2, h1, h2, a1, b1⟩, fun u H1 hy => ?_⟩
    obtain ⟨T, x', y', rfl, nT, rfl, c1, c2⟩ := hy
    have q1 := c1 _ h1
    have q2 := c2 _ h2
    rw [a1] at q1
    cases q1
    rw [b1] at q2
    cases q2
    obtain ⟨R1, S1, g1⟩ := R.allocG (o := .tup [v1, v2]) nT (fun _ z => by cases z)
    exact ⟨_, R1, S1, .tup (.inl g1) (.cons (a2.mono S1.sg) (.cons (b2.mono S1.sg) .nil))⟩
  · rw [List.length_map, List.length_zip] at hn
    have l1 := d1.length
    have l2 := d2.length
    exact ⟨vs1, vs2, h1, h2, by omega, by omega, by omega⟩
theorem di_zip {wd : Wd} {W : WS} {a b : Expr} {ws : Ev → EM (List D)} {p pos tpos : Pos} {elts : List Expr} {kk : Nat} (hm : X.mg "zip" = none) (hg : Gl X "zip") (ha : DBs X wd W [a, b] ws) (hs : starEach [a, b] X.env = (false, eval a X.env) :: starEach [b] X.env := by rfl) (hpl : (backTo pos (starEach [b] X.env)).any (·.1) = false := by rfl) :
    DI X wd W (.Tuple elts kk tpos) (.Call (.Name "zip" p) [a, b] [] pos) (eCall zip2M ws) := ⟨pi_imp (pi_zz hg hm ha.pa hs hpl) fun σ H Q q => by
  obtain ⟨O, G, ρ, π, R, p⟩ := q
  refine ⟨O, G, ρ, π, R, Post.imp (Post.chain (rep1 := rBs X) p) fun vs H1 z => ?_⟩
  obtain ⟨O1, G1, π1, ds, R1, S1, r1, p1⟩ := z
  have p1 : Post X wd W (rItB X wd) O1 G1 σ H1 ρ Q (zip2M ds π1) := p1
  obtain ⟨d, e, xs, ys, rfl, ex, ey, p1⟩ := post_zip p1
  obtain ⟨v, v2, rfl, rd, re⟩ := rBs.two r1
  obtain ⟨k1, vs1, a1, b1⟩ := sk_items R1 rd ex
  obtain ⟨k2, vs2, a2, b2⟩ := sk_items R1 re ey
  refine ⟨_, _, _, _, by rw [k1, k2], a1, a2, p1 _ O1 G1 H1 R1 (Step.refl _ _ _) fun i O2 G2 σ2 H2 ρ2 π2 S2 R2 => ?_⟩
  obtain ⟨_, ws1, f1, f2⟩ := sk_items R2 (rd.step S2) ex
  obtain ⟨_, ws2, f3, f4⟩ := sk_items R2 (re.step S2) ey
  exact it_zip R2 f1 f3 f2 f4 i⟩
theorem dis_zip {wd : Wd} {W : WS} {a b : Expr} {ws : Ev → EM (List D)} {p pos tpos : Pos} {elts : List Expr} {kk : Nat} (hm : X.mg "zip" = none) (hg : Gl X "zip") (ha : DA X wd W [a, b] ws) (hs : starEach [a, b] X.env = (false, eval a X.env) :: starEach [b] X.env := by rfl) (hpl : (backTo pos (starEach [b] X.env)).any (·.1) = false := by rfl) :
    DIS X wd W (.Tuple elts kk tpos) (.Call (.Name "zip" p) [a, b] [] pos) (eCall zip2M ws) := ⟨pi_imp (pi_zz hg hm ha.pa hs hpl) fun σ H Q q => by
  obtain ⟨O, G, ρ, π, R, p⟩ := q
  refine ⟨O, G, ρ, π, R, Post.imp (Post.chain (rep1 := rDs X) p) fun vs H1 z => ?_⟩
  obtain ⟨O1, G1, π1, ds, R1, S1, r1, p1⟩ := z
  have p1 : Post X wd W (rItS X wd) O1 G1 σ H1 ρ Q (zip2M ds π1) := p1
  obtain ⟨d, e, xs, ys, rfl, ex, ey, p1⟩ := post_zip p1
  obtain ⟨v, v2, rfl, rd, re⟩ : ∃ v v2, vs = [v, v2] ∧ Dp (md X) G1 v d ∧ Dp (md X) G1 v2 e := by
    have r1 : DpAll (md X) G1 vs [d, e] := r1
    cases r1 with
    | cons x r => cases r with
      | cons y r => cases r; exact ⟨_, _, rfl, x, y⟩
  obtain ⟨k1, vs1, a1, b1⟩ := sk_items R1 (.inl rd) ex
  obtain ⟨k2, vs2, a2, b2⟩ := sk_items R1 (.inl re) ey
  refine ⟨_, _, _, _, by rw [k1, k2], a1, a2, p1 _ O1 G1 H1 R1 (Step.refl _ _ _) fun i O2 G2 σ2 H2 ρ2 π2 S2 R2 => ?_⟩
  obtain ⟨_, ws1, f1, f2⟩ := sk_items R2 (.inl (rd.mono S2)) ex
  obtain ⟨_, ws2, f3, f4⟩ := sk_items R2 (.inl (re.mono S2)) ey
  exact it_zip R2 f1 f3 f2 f4 i⟩
end
end DL

/-! enumerate over lists, tuples, texts. -/
namespace DL
open PySem PySem.Spec PyProof.Rows L2 LamX PySem.W
theorem meets_en1 {u : Value} {ob : Obj} {C : Heap → Prop} (B : Begins u ob C) :
    Meets (Builtin.«enumerate.__new__» ⟨[.type "enumerate", u], []⟩) (fun _ R s => C s.heap ∧ R (.ok (.ret (.ref (s.heap.push ob).objs.size))) { s with heap := (s.heap.push ob).push { cls := .type "enumerate", data := .fields #[.none, .bool false, .ref s.heap.objs.size, rawInt 0, .none, .none] } }) :=
  .of_wp fun prog w A R s hh => by
    obtain ⟨hp, gg, dd, tt, oo⟩ := s
    obtain ⟨c1, hR⟩ := hh
    have hsub := sub_enumerate
    have it1 : ∀ {A' : Around} {E : Value → Shared → Prop} {Q : Value → Shared → Prop}, Q (.ref hp.objs.size) ⟨hp.push ob, gg, dd, tt, oo⟩ → wpAny (model prog w) A' (pyIter u) Q E ⟨hp, gg, dd, tt, oo⟩ := fun q => B.iter prog w _ _ _ _ c1 q
    wp_walk using it1
    refine wpAny_stack_any fun _ => wpAny_pure ?_
    split
    · rename_i cc _ _ _ _ _
      cases (cc == Value.type "enumerate") <;> (wp_walk using it1; exact ⟨_, rfl, hR⟩)
    · wp_walk using it1
      exact ⟨_, rfl, hR⟩
theorem en_begins {prog : Program} {w : World} {A : Around} {E : Value → Shared → Prop} {s : Shared} {u : Value} {ob : Obj} {C : Heap → Prop} {Q : Value → Shared → Prop} (B : Begins u ob C) (c1 : C s.heap)
    (k : ∀ h', IsEnum h' (s.heap.objs.size + 1) s.heap.objs.size 0 .none → h'.get? s.heap.objs.size = some ob → h'.objs.size = s.heap.objs.size + 2 → (∀ b x, s.heap.get? b = some x → h'.get? b = some x) → Q (.ref (s.heap.objs.size + 1)) { s with heap := h' }) :
    wpAny (model prog w) A (call (.type "enumerate") [u]) Q E s := by
  refine callType_new F.called_enumerate (by decide) (F.typeCall_enumerate_1 _) (F.newCall_enumerate_1 _) (fun obj => F.args_object_init_2 obj _) F.entry_enumerate_new (meets_en1 B) ⟨c1, ?_⟩
  have sz : (s.heap.push ob).objs.size = s.heap.objs.size + 1 := Heap.size_push ..
  have he : IsEnum ((s.heap.push ob).push { cls := .type "enumerate", data := .fields #[.none, .bool false, .ref s.heap.objs.size, rawInt 0, .none, .none] }) (s.heap.objs.size + 1) s.heap.objs.size 0 .none := by
    have q := Heap.get?_push_size (s.heap.push ob) (o := { cls := .type "enumerate", data := .fields #[.none, .bool false, .ref s.heap.objs.size, rawInt 0, .none, .none] }) rfl
    rw [sz] at q
    exact q
  show _ ∧ _
  rw [sz]
  exact ⟨⟨_, he, rfl⟩, k _ he (Heap.get?_push_of_some _ (Heap.get?_push_size _ B.free)) (by rw [Heap.size_push, sz]) fun b x e => Heap.get?_push_of_some _ (Heap.get?_push_of_some _ e)⟩
def ItE (K : PySem.W.Frag) (k : Sk) : It :=
  ⟨fun i H => ∃ (xs : List V) (x : V), k.rep K H xs ∧ xs[i]? = some x,
    fun i H v H' => ∃ T x, v = .ref T ∧ H T = none ∧ H' = upd H T (.tup [.int (i : Nat), x]) ∧ ∀ xs, k.rep K H xs → xs[i]? = some x,
    fun i H => ∃ xs : List V, k.rep K H xs ∧ i = xs.length⟩
theorem turnE {P : Program} {w : World} {K : PySem.W.Frag} {elts : List Expr} {kk : Nat} {tpos : Pos} {k : Sk} {e it : Addr} (hne : e ≠ it) (hef : e ∉ k.fp it) (ha : k.apart it) :
    Turn P w K (.Tuple elts kk tpos) (ItE K k) [e, it] e (fun i h => (∃ old, IsEnum h e it ((i : Nat) : Int) old) ∧ k.it it i h) where
  mem := by simp
  obj := fun i h st b hb => by
    obtain ⟨⟨old, he⟩, hi⟩ := st
    rcases (show b = e ∨ b = it by simpa using hb) with rfl | rfl
    · exact ⟨_, he, fun v q => nomatch q⟩
    · exact Sk.it_obj hi
  keep := fun i h h' st kp => by
    obtain ⟨⟨old, he⟩, hi⟩ := st
    exact ⟨⟨old, kp e (by simp) _ he⟩, Sk.it_at hi fun o q => kp it (by simp) o q⟩
  item := by
    intro X hP hw hK hc i pins s σ H E I hf st hg
    subst hP hw hK
    obtain ⟨⟨old, he⟩, hit⟩ := st
    obtain ⟨xs, x, hq, hx⟩ := hg
    have hd : X.A.in1.handled = none := I.ok.hd hc
    obtain ⟨P1, St1, D1, p1, s1, b1⟩ := Sk.draws I hq X.A.in1 hd it ha hit
    have hel : e < s.heap.objs.size := Heap.lt_size he
    have hil : it < s.heap.objs.size := by obtain ⟨_, q, _⟩ := Sk.it_obj hit; exact Heap.lt_size q
    refine wpAny_pyNext_enum_itemD D1 he s1 (List.getElem?_eq_some_iff.mp hx).1 hne hef fun u h' tk y1 ho d1 hT hsz hk => ?_
    obtain ⟨x', e1, ru⟩ := p1 _ _ y1
    rw [hx] at e1
    cases e1
    refine ⟨_, rfl, wpAny_letOwnedTupleGo_enum (s := { s with heap := h', toks := tk + 1 }) ho fun h'' he' sb => ?_⟩
    have hT2 : h''.get? s.heap.objs.size = some { cls := .type "tuple", data := .seq #[.int i tk, u] } := (sb.2 _ (Nat.ne_of_gt hel)).trans hT
    have new : ObjOk X.prog X.w (upd H s.heap.objs.size (.tup [.int (i : Nat), x])) h'' s.heap.objs.size (.tup [.int (i : Nat), x]) :=
      ⟨by show 2 ≤ sizeLine; decide, [.int i tk, u], .cons ⟨_, rfl⟩ (.cons ru .nil), ⟨_, hT2, rfl, _, rfl⟩⟩
    have I1 : Inv X pins σ (upd H s.heap.objs.size (.tup [.int (i : Nat), x])) { s with heap := h'', toks := tk + 1 } :=
      I.turnedNew (ch := [e, it]) (fun b ob hb q => (sb.2 b (fun z => hb (by simp [z]))).trans (hk b ob (fun z => hb (by simp [z])) (fun z => hb (by simp [z])) q)) hf (Nat.le_refl _) new
    refine ⟨.ref s.heap.objs.size, _, I1, rfl, ⟨_, x, rfl, I.hok.fresh (Nat.le_refl _), rfl, fun ys hy => by rw [Sk.rep_inj I hy hq]; exact hx⟩, ⟨⟨u, ?_⟩, Sk.it_at (b1 _ _ d1) fun o q => (sb.2 it (Ne.symm hne)).trans q⟩, fun b hb => ?_⟩
    · rw [show ((i + 1 : Nat) : Int) = (i : Int) + 1 by omega]
      exact he'
    · have hb' : b < s.heap.objs.size := by
        rcases (show b = e ∨ b = it by simpa using hb) with rfl | rfl
        · exact hel
        · exact hil
      rw [upd_ne (Nat.ne_of_lt hb')]
      exact (hf b hb).1
  done := by
    intro X hP hw hK hc i pins s σ H E I hf st hg
    subst hP hw hK
    obtain ⟨⟨old, he⟩, hit⟩ := st
    obtain ⟨xs, hq, rfl⟩ := hg
    have hd : X.A.in1.handled = none := I.ok.hd hc
    obtain ⟨P1, St1, D1, p1, s1, b1⟩ := Sk.draws I hq X.A.in1 hd it ha hit
    obtain ⟨f0, f1, f2, f3, f4, f5⟩ := hf it (by simp)
    exact wpAny_pyNext_enum_endD D1 he s1 fun h' eb => ⟨rfl, I.turned (t' := s.toks) (fun b o hb q => eb b o hb q) f0 f1 f3 f4 f5⟩
  self := fun A i s Q E st h => by
    obtain ⟨⟨_, he⟩, _⟩ := st
    exact wpAny_pyIter_enum he h
def iE (K : PySem.W.Frag) (ta : TA) : L2.TI := fun σ H R => ta σ H fun vs H1 => ∃ k xs, vs = [k.v] ∧ k.rep K H1 xs ∧ R (ItE K k) H1
section
variable {X : Cx}
theorem pi_en {e : Expr} {ta : TA} {p pos tpos : Pos} {elts : List Expr} {kk : Nat} (hg : Gl X "enumerate") (hm : X.mg "enumerate" = none) (ha : PA X [e] ta) (hs : starEach [e] X.env = [(false, eval e X.env)] := by rfl) :
    PI X (.Tuple elts kk tpos) (.Call (.Name "enumerate" p) [e] [] pos) (iE X.K ta) := by
  constructor
  intro pins s σ H R I h
  refine Call_ (ld_blt I hg hm boot_enumerate (PyProof.Rows.callWith_type1 (thn (ha.run pos pins s σ H _ I h) fun us s1 z => ?_) hs rfl))
  obtain ⟨vs, H1, I1, r1, k, xs, rfl, hx, q⟩ := z
  obtain ⟨u, rfl, ru⟩ := Vals.one r1
  obtain ⟨ob, C, B, c1, it1, ap1⟩ := Sk.begin I1 hx ru
  refine en_begins B c1 fun h' he g1 hsz hk => wpAny_pyIter_enum he ?_
  have I2 : Inv X pins σ H1 { s1 with heap := h' } := I1.kept (t' := s1.toks) hk
  have sep : s1.heap.objs.size + 1 ∉ k.fp s1.heap.objs.size := by
    cases k with
    | lst a =>
      obtain ⟨_, _, p, _⟩ := I1.list hx
      have hl : (a : Nat) < s1.heap.objs.size := p.lt
      intro hm
      rcases (show (s1.heap.objs.size + 1 : Nat) = s1.heap.objs.size ∨ (s1.heap.objs.size + 1 : Nat) = a by simpa [Sk.fp] using hm) with z | z
      · exact absurd z (Nat.succ_ne_self _)
      · rw [← z] at hl
        exact absurd hl (Nat.not_lt.mpr (Nat.le_succ _))
    | tup a =>
      obtain ⟨_, _, p, _⟩ := I1.tuple hx
      obtain ⟨o, ho, _⟩ := id p
      have hl : (a : Nat) < s1.heap.objs.size := Heap.lt_size ho
      intro hm
      rcases (show (s1.heap.objs.size + 1 : Nat) = s1.heap.objs.size ∨ (s1.heap.objs.size + 1 : Nat) = a by simpa [Sk.fp] using hm) with z | z
      · exact absurd z (Nat.succ_ne_self _)
      · rw [← z] at hl
        exact absurd hl (Nat.not_lt.mpr (Nat.le_succ _))
    | str x =>
      intro hm
      have z : (s1.heap.objs.size + 1 : Nat) = s1.heap.objs.size := by simpa [Sk.fp] using hm
      omega
  refine ⟨s1.heap.objs.size + 1, [s1.heap.objs.size + 1, s1.heap.objs.size], _, _, H1, rfl, I2, turnE (k := k) (e := s1.heap.objs.size + 1) (it := s1.heap.objs.size) (Nat.succ_ne_self _) sep (ap1 _ (Nat.le_refl _)), ⟨⟨.none, he⟩, it1 _ _ g1⟩, fun b hb => ?_, q⟩
  have hle : s1.heap.objs.size ≤ b := by
    rcases (show b = s1.heap.objs.size + 1 ∨ b = s1.heap.objs.size by simpa using hb) with z | z
    all_goals (rw [z]; first | exact Nat.le_refl _ | exact Nat.le_add_right _ _)
  exact I1.fpOk hle (I1.hok.fresh hle)
def enu (xs : List D) : List D := xs.zipIdx.map fun p => .tup [.int (p.2 : Int), p.1]
def enuM : List D → EM (List D)
  | [d] => do
    let xs ← itemsM d
    pure (enu xs)
  | _ => EM.bad
theorem post_en {wd : Wd} {W : WS} {β : Type} {rep : Own → Hp → Hp → β → List D → Prop} {O : Own} {G : Hp} {σ : L2.St} {H : Hp} {ρ : Ev} {Q : β → Hp → Prop} {ds : List D} {π : Rt} (h : Post X wd W rep O G σ H ρ Q (enuM ds π)) :
    ∃ d xs, ds = [d] ∧ itemsM d π = .ok xs π ∧ Post X wd W rep O G σ H ρ Q (.ok (enu xs) π) := by
  match ds, h with
  | [d], h =>
    have h : Post X wd W rep O G σ H ρ Q ((itemsM d π).bind fun xs π1 => .ok (enu xs) π1) := h
    obtain ⟨xs, ex, e1⟩ := items_ok (post_ne h)
    rw [e1] at h
    exact ⟨d, xs, rfl, ex, h⟩
  | [], h => exact h.elim
  | _ :: _ :: _, h => exact h.elim
theorem it_en {wd : Wd} {O : Own} {G : Hp} {σ : L2.St} {H : Hp} {ρ : Ev} {π : Rt} {k : Sk} {vs : List V} {xs : List D} (R : RW (md X) wd O G σ H ρ π) (h1 : k.rep X.K H vs) (d1 : DpAll (md X) G vs xs) (i : Nat) : ItAt X wd (ItE X.K k) (enu xs) i O G σ H ρ π := by
  refine ⟨fun d hd => ?_, fun hn => ?_⟩
  · unfold enu at hd
    rw [List.getElem?_map] at hd
    obtain ⟨⟨x, j⟩, hz, rfl⟩ := Option.map_eq_some_iff.mp hd
    rw [List.getElem?_zipIdx] at hz
    obtain ⟨x', hx, hz⟩ := Option.map_eq_some_iff.mp hz
    cases hz
    rw [Nat.zero_add]
    obtain ⟨v1, a1, a2⟩ := d1.get hx
    refine ⟨⟨vs, v1, h1, a1⟩, fun u H1 hy => ?_⟩
    obtain ⟨T, y, rfl, nT, rfl, c1⟩ := hy
    have q1 := c1 _ h1
    rw [a1] at q1
    cases q1
    obtain ⟨R1, S1, g1⟩ := R.allocG (o := .tup [.int (i : Nat), v1]) nT (fun _ z => by cases z)
    exact ⟨_, R1, S1, .tup (.inl g1) (.cons (.int _) (.cons (a2.mono S1.sg) .nil))⟩
  · unfold enu at hn
    rw [List.length_map, List.length_zipIdx] at hn
    exact ⟨vs, h1, hn.trans d1.length.symm⟩
theorem di_enum {wd : Wd} {W : WS} {a : Expr} {ws : Ev → EM (List D)} {p pos tpos : Pos} {elts : List Expr} {kk : Nat} (hm : X.mg "enumerate" = none) (hg : Gl X "enumerate") (ha : DBs X wd W [a] ws) (hs : starEach [a] X.env = [(false, eval a X.env)] := by rfl) :
    DI X wd W (.Tuple elts kk tpos) (.Call (.Name "enumerate" p) [a] [] pos) (eCall enuM ws) := ⟨pi_imp (pi_en hg hm ha.pa hs) fun σ H Q q => by
  obtain ⟨O, G, ρ, π, R, p⟩ := q
  refine ⟨O, G, ρ, π, R, Post.imp (Post.chain (rep1 := rBs X) p) fun vs H1 z => ?_⟩
  obtain ⟨O1, G1, π1, ds, R1, S1, r1, p1⟩ := z
  have p1 : Post X wd W (rItB X wd) O1 G1 σ H1 ρ Q (enuM ds π1) := p1
  obtain ⟨d, xs, rfl, ex, p1⟩ := post_en p1
  obtain ⟨v, rfl, rd⟩ := rBs.one r1
  obtain ⟨k1, vs1, a1, b1⟩ := sk_items R1 rd ex
  refine ⟨_, _, by rw [k1], a1, p1 _ O1 G1 H1 R1 (Step.refl _ _ _) fun i O2 G2 σ2 H2 ρ2 π2 S2 R2 => ?_⟩
  obtain ⟨_, ws1, f1, f2⟩ := sk_items R2 (rd.step S2) ex
  exact it_en R2 f1 f2 i⟩
theorem dis_enum {wd : Wd} {W : WS} {a : Expr} {ws : Ev → EM (List D)} {p pos tpos : Pos} {elts : List Expr} {kk : Nat} (hm : X.mg "enumerate" = none) (hg : Gl X "enumerate") (ha : DA X wd W [a] ws) (hs : starEach [a] X.env = [(false, eval a X.env)] := by rfl) :
    DIS X wd W (.Tuple elts kk tpos) (.Call (.Name "enumerate" p) [a] [] pos) (eCall enuM ws) := ⟨pi_imp (pi_en hg hm ha.pa hs) fun σ H Q q => by
  obtain ⟨O, G, ρ, π, R, p⟩ := q
  refine ⟨O, G, ρ, π, R, Post.imp (Post.chain (rep1 := rDs X) p) fun vs H1 z => ?_⟩
  obtain ⟨O1, G1, π1, ds, R1, S1, r1, p1⟩ := z
  have p1 : Post X wd W (rItS X wd) O1 G1 σ H1 ρ Q (enuM ds π1) := p1
  obtain ⟨d, xs, rfl, ex, p1⟩ := post_en p1
  obtain ⟨v, rfl, rd⟩ : ∃ v, vs = [v] ∧ Dp (md X) G1 v d := by
    have r1 : DpAll (md X) G1 vs [d] := r1
    cases r1 with
    | cons x r => cases r; exact ⟨_, rfl, x⟩
  obtain ⟨k1, vs1, a1, b1⟩ := sk_items R1 (.inl rd) ex
  refine ⟨_, _, by rw [k1], a1, p1 _ O1 G1 H1 R1 (Step.refl _ _ _) fun i O2 G2 σ2 H2 ρ2 π2 S2 R2 => ?_⟩
  obtain ⟨_, ws1, f1, f2⟩ := sk_items R2 (.inl (rd.mono S2)) ex
  exact it_en R2 f1 f2 i⟩
end
end DL

/-! the law's refusals; lists made by + and * that stay the name's own. -/
namespace DL
open PySem PySem.Spec PyProof.Rows L2 LamX
/-- what is known of the def that tells by which name a call is refused -/
structure RaisesL (K : PySem.W.Frag) (mg : Str → Option Value) (base : Heap) (code : Value) (qual : Str) (T : List (Addr × Str)) (hs : List (DL.Tab × Str)) : Prop where
  ex : ∃ (st : Stmt) (g : Addr) (fd : FuncData) (c Pt : Addr) (h₀ : ExceptHandler) (hds : List ExceptHandler) (l : List (Value × Str)) (p1 p2 p3 p4 p5 p6 : Pos) (j : Nat),
    Fun K "_law_raises" "_law_raises" st g fd ∧ mg "_law_raises" = some (.ref g) ∧ L2.Binds K fd ["work", "name"] [] ∧ FnScope ["work", "name"] ["work", "name"] (defScope st) ∧
    defBody st = [.Try [.Expr (.Call (.Name "work" p1) [] [] p2) p3] (h₀ :: hds) [] [] p4, .Return (some (.Constant (.bool false) j p5)) p6] ∧ RH (defScope st) mg "name" (h₀ :: hds) l ∧ (∀ X : Cx, X.K = K → X.mg = mg → TabsR X l hs) ∧
    TabB base mg c Pt ∧ code = .ref c ∧ (Pt, qual ++ "<lambda>") ∈ T ∧ (∀ p ∈ T, p.1 = Pt → p.2 = qual ++ "<lambda>") ∧ Vis (defScope st) "work" ∧ Vis (defScope st) "name" ∧
    ∀ (cd : Value) (n : Nat), swapsWith (.Call (.Name "work" p1) [] [] p2) none p3.line (envOfC "_law_raises" (defScope st) n g cd) = pure false
section
variable {X : Cx} {wd : Wd} {W : WS}
theorem de_raisesL {T : List (Addr × Str)} {hs : List (DL.Tab × Str)} {k : Nat} {prs : Arguments} {body : Expr} {scope : Scope} {z : Str} {jz : Nat} {pz p lpos pos : Pos} {w : Ev → EM D} (LW : LamW T wd) (RL : RaisesL X.K X.mg X.base X.env.code X.env.qual T hs) (hr : Room (k + 2) X.A) (hg : Gl X "_law_raises") (L : LamS X.env.scope scope)
    (hw : ∀ (A1 : Around) (ou : List Env) (s1 : Shared) (H1 : Hp) (E1 : XK) (f c' : Addr), Room k (A1.deeper (lamEnv X scope s1.heap.objs.size f c')) → DE (lamCx X A1 ou s1 H1 E1 scope f c') wd (fun _ => E1) body w)
    (hdef : defaultsOf prs X.env = ([], []) := by rfl) (hb0 : ∀ (q : Str) (cl : List (Str × Addr)) (pm cv ctv : Value), bindArgs (PySem.W.kla_fn "<lambda>" q prs body scope cl pm cv ctv) ⟨[], []⟩ = pure [] := by intros; rfl) :
    DE X wd W (.Call (.Name "_law_raises" p) [.Lambda prs body scope lpos, .Constant (.str z) jz pz] [] pos) (eRaises hs z w) := by
  obtain ⟨st, g, fd, c, Pt, h₀, hds, l, p1, p2, p3, p4, p5, p6, j, a1, a2, a3, a4, a5, a6, a7, a8, a9, a10, a11, a12, a13, a14⟩ := RL.ex
  exact de_raises LW a1 a2 a3 a4 a5 a6 (a7 X rfl rfl) a8 a9 a10 a11 hr hg L hw a12 a13 (by decide) (by decide) (by decide) (by decide) hdef hb0 (by decide) a14
/-! lists by + and * -/
def Sem2F (X : Cx) (wd : Wd) (W : WS) (r : R2) (f : D → D → EM (List D)) : Prop := ∀ O G σ H ρ π Q x y d1 d2, RW (md X) wd O G σ H ρ π → rB X O G H x d1 → rB X O G H y d2 → Post X wd W (rF X wd) O G σ H ρ Q (f d1 d2 π) → r x y H Q
def eBinF (f : D → D → EM (List D)) (a b : Ev → EM D) : Ev → EM (List D) := fun ρ => do
  let x ← a ρ
  let y ← b ρ
  f x y
variable {a b : Expr} {wa wb : Ev → EM D} {pos : Pos}
theorem df_bin {op : Operator} {r : R2} {f : D → D → EM (List D)} (ho : OpR X (binaryOp op) r) (hs : Sem2F X wd W r f) (ha : DB X wd W a wa) (hb : DB X wd W b wb) : DF X wd W (.BinOp a op b pos) (eBinF f wa wb) := ⟨pe_imp (pe_op ho ha.pe hb.pe) fun σ H Q q => by
  obtain ⟨O, G, ρ, π, R, p⟩ := q
  refine ⟨O, G, ρ, π, R, Post.imp (Post.chain (rep1 := rB X) (o := wa ρ π) p) fun v H1 z => ?_⟩
  obtain ⟨O1, G1, π1, d1, R1, S1, r1, p1⟩ := z
  refine ⟨O1, G1, ρ, π1, R1, Post.imp (Post.chain (rep1 := rB X) (o := wb ρ π1) p1) fun u H2 z => ?_⟩
  obtain ⟨O2, G2, π2, d2, R2, S2, r2, p2⟩ := z
  exact hs _ _ _ _ _ _ _ _ _ _ _ R2 (rB.step r1 S2) r2 p2⟩
def addF : D → D → EM (List D)
  | .lst xs, .lst ys => if xs.length + ys.length ≤ sizeLine then pure (xs ++ ys) else EM.bad
  | _, _ => EM.bad
theorem semF_add : Sem2F X wd W rCat addF := by
  intro O G σ H ρ π Q x y d1 d2 R h1 h2 p
  unfold addF at p
  split at p
  · next xs ys =>
    obtain ⟨a, vs, rfl, q1, q2⟩ := h1.i_lst R
    obtain ⟨b, ws, rfl, q4, q5⟩ := h2.i_lst R
    split at p
    · next e =>
      rw [← q2.length, ← q5.length] at e
      exact ⟨a, b, vs, ws, rfl, rfl, q1, q4, e, fun c n => Post.giveF p R (q2.append q5) n⟩
    · exact (post_bad p).elim
  · exact (post_bad p).elim
def mulF : D → D → EM (List D)
  | .lst xs, .int k => if decide (-(2 ^ 63) ≤ k) && (decide (k < 2 ^ 63) && decide (xs.length * k.toNat ≤ sizeLine)) then pure (List.replicate k.toNat xs).flatten else EM.bad
  | _, _ => EM.bad
theorem semF_mul : Sem2F X wd W rRep mulF := by
  intro O G σ H ρ π Q x y d1 d2 R h1 h2 p
  unfold mulF at p
  split at p
  · next xs k =>
    obtain ⟨a, vs, rfl, q1, q2⟩ := h1.i_lst R
    obtain rfl := h2.i_int
    split at p
    · next e =>
      simp only [Bool.and_eq_true, decide_eq_true_eq] at e
      obtain ⟨e1, e2, e3⟩ := e
      rw [← q2.length] at e3
      exact ⟨a, k, vs, rfl, rfl, q1, e1, e2, e3, fun c n => Post.giveF p R (q2.rep _) n⟩
    · exact (post_bad p).elim
  · exact (post_bad p).elim
theorem df_add (ha : DB X wd W a wa) (hb : DB X wd W b wb) : DF X wd W (.BinOp a .Add b pos) (eBinF addF wa wb) := df_bin op_cat semF_add ha hb
theorem df_mul (ha : DB X wd W a wa) (hb : DB X wd W b wb) : DF X wd W (.BinOp a .Mult b pos) (eBinF mulF wa wb) := df_bin op_rep semF_mul ha hb
end
end DL

/-! rows of whole numbers: equality, slices. -/
namespace DL
open PySem PySem.Spec PyProof.Rows L2
theorem pys_ints : ∀ ns : List Int, D.pys (ns.map D.int) = some (ns.map PyData.int)
  | [] => by simp only [List.map_nil, D.pys]
  | i :: r => by
    simp only [List.map_cons, D.pys, pys_ints r, D.py]
theorem lay_ints : ∀ ns : List Int, PyData.canLayAll0 (ns.map PyData.int) = true
  | [] => by simp only [List.map_nil, PyData.canLayAll0]
  | i :: r => by simp only [List.map_cons, PyData.canLayAll0, PyData.canLay0, lay_ints r, Bool.and_self]
theorem dep_ints : ∀ ns : List Int, PyData.depthAll (ns.map PyData.int) = 0
  | [] => by simp only [List.map_nil, PyData.depthAll]
  | i :: r => by simp only [List.map_cons, PyData.depthAll, PyData.depth, dep_ints r]; rfl
theorem eqvAll_ints : ∀ xs ys : List Int, PyData.eqvAll (xs.map PyData.int) (ys.map PyData.int) = decide (xs = ys)
  | [], [] => by simp only [List.map_nil, PyData.eqvAll]; rfl
  | [], _ :: _ => by simp only [List.map_nil, List.map_cons, PyData.eqvAll]; rfl
  | _ :: _, [] => by simp only [List.map_nil, List.map_cons, PyData.eqvAll]; rfl
  | x :: xs, y :: ys => by
    simp only [List.map_cons, PyData.eqvAll, PyData.eqv, eqvAll_ints xs ys]
    rw [Bool.eq_iff_iff]
    simp
theorem eqB_ints (xs ys : List Int) : eqB (.lst (xs.map D.int)) (.lst (ys.map D.int)) = some (decide (xs = ys)) := by
  have sh : ∀ ns : List Int, SeqAt.shaped (.list (ns.map PyData.int)) = true := fun ns => shaped_0 (by simp only [PyData.canLay0]; exact lay_ints ns) (by simp only [PyData.depth, dep_ints]; decide)
  unfold eqB
  simp only [D.py, pys_ints, Option.map_some, sh, Bool.and_self, if_true, PyData.eqv, eqvAll_ints]
theorem eqB_intsT (xs ys : List Int) : eqB (.tup (xs.map D.int)) (.tup (ys.map D.int)) = some (decide (xs = ys)) := by
  have sh : ∀ ns : List Int, SeqAt.shaped (.tuple (ns.map PyData.int)) = true := fun ns => shaped_0 (by simp only [PyData.canLay0]; exact lay_ints ns) (by simp only [PyData.depth, dep_ints]; decide)
  unfold eqB
  simp only [D.py, pys_ints, Option.map_some, sh, Bool.and_self, if_true, PyData.eqv, eqvAll_ints]
theorem six_neg {n k d : Nat} (h : 0 < k) : HT.sIx n d (some (-(k : Int))) = n - k := by
  show (if -(k : Int) < 0 then (-(k : Int) + (n : Int)).toNat else min (-(k : Int)).toNat n) = n - k
  rw [if_pos (by omega)]
  omega
theorem cut_init {α : Type} (xs : List α) (a b c : α) : cut (xs ++ [a, b, c]) none (some (-3)) = xs := by
  unfold cut
  rw [show (-3 : Int) = -((3 : Nat) : Int) by rfl, six_neg (by decide), show HT.sIx (xs ++ [a, b, c]).length 0 none = 0 by rfl]
  simp
theorem cut_last {α : Type} (xs : List α) (a b c : α) : cut (xs ++ [a, b, c]) (some (-3)) none = [a, b, c] := by
  unfold cut
  rw [show (-3 : Int) = -((3 : Nat) : Int) by rfl, six_neg (by decide), show HT.sIx (xs ++ [a, b, c]).length (xs ++ [a, b, c]).length none = (xs ++ [a, b, c]).length by rfl]
  simp
theorem while_f {t : Ev → EM Bool} {s : SM} {ρ : Ev} {π π' : Rt} (n : Nat) (h : t ρ π = .ok false π') : whileGo t s (n + 1) ρ π = .nx ρ π' := by
  show SO.of ρ (t ρ π) _ = _
  rw [h]
  rfl
theorem while_t {t : Ev → EM Bool} {s : SM} {ρ ρ' : Ev} {π π' π2 : Rt} (n : Nat) (h : t ρ π = .ok true π') (hs : s ρ π' = .nx ρ' π2) : whileGo t s (n + 1) ρ π = whileGo t s n ρ' π2 := by
  show SO.of ρ (t ρ π) _ = _
  rw [h]
  show (match s ρ π' with
    | .nx ρ' π2 => whileGo t s n ρ' π2
    | .ct ρ' π2 => whileGo t s n ρ' π2
    | .brk ρ' π2 => .nx ρ' π2
    | o => o) = _
  rw [hs]
end DL

/-! things: numbers, texts, tuples and lists of things; slices; one put into a row. -/
namespace DL
open PySem PySem.Spec PyProof.Rows L2
theorem strOk_of (s : String) : PyData.strOk (Str.ofString s) = true := by
  unfold PyData.strOk
  rw [← Array.all_toList]
  have e : (Str.ofString s).cps.toList = s.toList.map Char.toNat := PyProof.Rows.signs_ofString s
  rw [e, List.all_map]
  refine List.all_eq_true.mpr fun c _ => ?_
  have := c.valid
  show decide (c.toNat < 0x110000) = true
  rw [decide_eq_true_eq]
  have h : c.val.isValidChar := c.valid
  unfold UInt32.isValidChar Nat.isValidChar at h
  show c.val.toNat < 0x110000
  omega
/-- things: texts, lists and tuples at most m long, n deep -/
def th (m : Nat) : Nat → D → Bool
  | _, .non => true
  | _, .bl _ => true
  | _, .int _ => true
  | _, .str s => PyData.strOk s
  | n + 1, .tup xs => decide (xs.length ≤ m) && xs.all (th m n)
  | n + 1, .lst xs => decide (xs.length ≤ m) && xs.all (th m n)
  | _, _ => false
/-- numbers of 64 bits, tuples of them -/
def ti (m : Nat) : Nat → D → Bool
  | _, .int i => decide (i.natAbs < 2 ^ 64)
  | n + 1, .tup xs => decide (xs.length ≤ m) && xs.all (ti m n)
  | _, _ => false
theorem th_tup {m n : Nat} {xs : List D} : th m (n + 1) (.tup xs) = true ↔ xs.length ≤ m ∧ ∀ x ∈ xs, th m n x = true := by
  rw [th, Bool.and_eq_true, decide_eq_true_eq, List.all_eq_true]
theorem th_lst {m n : Nat} {xs : List D} : th m (n + 1) (.lst xs) = true ↔ xs.length ≤ m ∧ ∀ x ∈ xs, th m n x = true := by
  rw [th, Bool.and_eq_true, decide_eq_true_eq, List.all_eq_true]
theorem ti_tup {m n : Nat} {xs : List D} : ti m (n + 1) (.tup xs) = true ↔ xs.length ≤ m ∧ ∀ x ∈ xs, ti m n x = true := by
  rw [ti, Bool.and_eq_true, decide_eq_true_eq, List.all_eq_true]
@[simp] theorem th_int (m n : Nat) (i : Int) : th m n (.int i) = true := by cases n <;> simp only [th]
@[simp] theorem th_bl (m n : Nat) (i : Bool) : th m n (.bl i) = true := by cases n <;> simp only [th]
@[simp] theorem th_non (m n : Nat) : th m n .non = true := by cases n <;> simp only [th]
theorem th_str (m n : Nat) (s : Str) (h : PyData.strOk s = true) : th m n (.str s) = true := by cases n <;> simp only [th, h]
theorem th_mono {m m' : Nat} (hm : m ≤ m') : ∀ (n n' : Nat) (d : D), n ≤ n' → th m n d = true → th m' n' d = true
  | n, n', .non, _, _ => th_non _ _
  | n, n', .bl b, _, _ => th_bl _ _ b
  | n, n', .int i, _, _ => th_int _ _ i
  | n, n', .str s, _, h => th_str _ _ s (by cases n <;> simpa only [th] using h)
  | 0, n', .tup xs, _, h => by simp [th] at h
  | n + 1, 0, .tup xs, hn, h => by omega
  | n + 1, n' + 1, .tup xs, hn, h => by
    rw [th_tup] at h ⊢
    exact ⟨by omega, fun x hx => th_mono hm n n' x (by omega) (h.2 x hx)⟩
  | 0, n', .lst xs, _, h => by simp [th] at h
  | n + 1, 0, .lst xs, hn, h => by omega
  | n + 1, n' + 1, .lst xs, hn, h => by
    rw [th_lst] at h ⊢
    exact ⟨by omega, fun x hx => th_mono hm n n' x (by omega) (h.2 x hx)⟩
  | n, n', .dct _, _, h => by cases n <;> simp [th] at h
  | n, n', .frz _, _, h => by cases n <;> simp [th] at h
  | n, n', .obj _ _, _, h => by cases n <;> simp [th] at h
  | n, n', .raw _, _, h => by cases n <;> simp [th] at h
theorem th_fine {m : Nat} (hm : m ≤ most) : ∀ (n : Nat) (d : D), th m n d = true → fine n d = true
  | n, .non, _ => by cases n <;> simp only [fine]
  | n, .bl b, _ => by cases n <;> simp only [fine]
  | n, .int i, _ => by cases n <;> simp only [fine]
  | n, .str s, h => by cases n <;> simpa only [fine, th] using h
  | 0, .tup xs, h => by simp [th] at h
  | n + 1, .tup xs, h => by
    rw [th_tup] at h
    rw [fine, Bool.and_eq_true, decide_eq_true_eq, List.all_eq_true]
    exact ⟨by omega, fun x hx => th_fine hm n x (h.2 x hx)⟩
  | 0, .lst xs, h => by simp [th] at h
  | n + 1, .lst xs, h => by
    rw [th_lst] at h
    rw [fine, Bool.and_eq_true, decide_eq_true_eq, List.all_eq_true]
    exact ⟨by omega, fun x hx => th_fine hm n x (h.2 x hx)⟩
  | n, .dct _, h => by cases n <;> simp [th] at h
  | n, .frz _, h => by cases n <;> simp [th] at h
  | n, .obj _ _, h => by cases n <;> simp [th] at h
  | n, .raw _, h => by cases n <;> simp [th] at h
theorem ti_th {m : Nat} : ∀ (n : Nat) (d : D), ti m n d = true → th m n d = true
  | n, .int i, _ => th_int _ _ i
  | 0, .tup xs, h => by simp [ti] at h
  | n + 1, .tup xs, h => by
    rw [ti_tup] at h
    rw [th_tup]
    exact ⟨h.1, fun x hx => ti_th n x (h.2 x hx)⟩
  | n, .non, h => by cases n <;> simp [ti] at h
  | n, .bl _, h => by cases n <;> simp [ti] at h
  | n, .str _, h => by cases n <;> simp [ti] at h
  | n, .lst _, h => by cases n <;> simp [ti] at h
  | n, .dct _, h => by cases n <;> simp [ti] at h
  | n, .frz _, h => by cases n <;> simp [ti] at h
  | n, .obj _ _, h => by cases n <;> simp [ti] at h
  | n, .raw _, h => by cases n <;> simp [ti] at h
theorem pys_th {m n : Nat} (ih : ∀ d, th m n d = true → ∃ p, D.py d = some p ∧ p.canLay0 = true ∧ p.depth ≤ n) : ∀ xs : List D, (∀ x ∈ xs, th m n x = true) → ∃ ps, D.pys xs = some ps ∧ PyData.canLayAll0 ps = true ∧ PyData.depthAll ps ≤ n ∧ ps.length = xs.length
  | [], _ => ⟨[], by simp only [D.pys], by simp only [PyData.canLayAll0], by simp only [PyData.depthAll]; omega, rfl⟩
  | x :: r, h => by
    obtain ⟨p, h1, h2, h3⟩ := ih x (h x List.mem_cons_self)
    obtain ⟨ps, k1, k2, k3, k4⟩ := pys_th ih r fun z hz => h z (List.mem_cons_of_mem _ hz)
    refine ⟨p :: ps, by simp only [D.pys, h1, k1], by simp only [PyData.canLayAll0, h2, k2, Bool.and_self], ?_, by simp [k4]⟩
    simp only [PyData.depthAll]
    omega
theorem py_th {m : Nat} : ∀ (n : Nat) (d : D), th m n d = true → ∃ p, D.py d = some p ∧ p.canLay0 = true ∧ p.depth ≤ n
  | n, .non, _ => ⟨.none, by simp only [D.py], by simp only [PyData.canLay0], by simp only [PyData.depth]; omega⟩
  | n, .bl b, _ => ⟨.bool b, by simp only [D.py], by simp only [PyData.canLay0], by simp only [PyData.depth]; omega⟩
  | n, .int i, _ => ⟨.int i, by simp only [D.py], by simp only [PyData.canLay0], by simp only [PyData.depth]; omega⟩
  | n, .str s, h => ⟨.str s, by simp only [D.py], by simp only [PyData.canLay0]; (cases n <;> simpa only [th] using h), by simp only [PyData.depth]; omega⟩
  | 0, .tup xs, h => by simp [th] at h
  | n + 1, .tup xs, h => by
    rw [th_tup] at h
    obtain ⟨ps, k1, k2, k3, _⟩ := pys_th (fun d hd => py_th n d hd) xs h.2
    exact ⟨.tuple ps, by simp only [D.py, k1, Option.map_some], by simp only [PyData.canLay0, k2], by simp only [PyData.depth]; omega⟩
  | 0, .lst xs, h => by simp [th] at h
  | n + 1, .lst xs, h => by
    rw [th_lst] at h
    obtain ⟨ps, k1, k2, k3, _⟩ := pys_th (fun d hd => py_th n d hd) xs h.2
    exact ⟨.list ps, by simp only [D.py, k1, Option.map_some], by simp only [PyData.canLay0, k2], by simp only [PyData.depth]; omega⟩
  | n, .dct _, h => by cases n <;> simp [th] at h
  | n, .frz _, h => by cases n <;> simp [th] at h
  | n, .obj _ _, h => by cases n <;> simp [th] at h
  | n, .raw _, h => by cases n <;> simp [th] at h
/-- a list is the empty one -/
theorem eqB_mt {m n : Nat} (hn : n ≤ 60) {ys : List D} (h : ∀ y ∈ ys, th m n y = true) : eqB (.lst ys) (.lst []) = some ys.isEmpty := by
  obtain ⟨ps, k1, k2, k3, k4⟩ := pys_th (fun d hd => py_th n d hd) ys h
  have s1 : SeqAt.shaped (.list ps) = true := shaped_0 (by simp only [PyData.canLay0, k2]) (by simp only [PyData.depth]; omega)
  have s2 : SeqAt.shaped (.list []) = true := shaped_0 (by simp only [PyData.canLay0, PyData.canLayAll0]) (by simp only [PyData.depth, PyData.depthAll]; decide)
  have e0 : D.pys [] = some [] := by simp only [D.pys]
  unfold eqB
  simp only [D.py, k1, e0, Option.map_some, s1, s2, Bool.and_self, if_true, PyData.eqv]
  cases ys with
  | nil => cases ps with
    | nil => simp only [PyData.eqvAll]; rfl
    | cons _ _ => cases k4
  | cons _ _ => cases ps with
    | nil => cases k4
    | cons _ _ => simp only [PyData.eqvAll]; rfl
theorem cut_mem {α : Type} {xs : List α} {a b : Option Int} {d : α} (h : d ∈ cut xs a b) : d ∈ xs := List.mem_of_mem_drop (List.mem_of_mem_take h)
theorem cut_len {α : Type} (xs : List α) (a b : Option Int) : (cut xs a b).length ≤ xs.length := by
  unfold cut
  rw [List.length_take, List.length_drop]
  omega
theorem cut_to {α : Type} (xs : List α) {p : Nat} (h : p ≤ xs.length) : cut xs none (some (p : Int)) = xs.take p := by
  unfold cut
  rw [HT.sIx_nat, show HT.sIx xs.length 0 none = 0 by rfl, Nat.min_eq_left h]
  simp
theorem cut_from {α : Type} (xs : List α) {p : Nat} (h : p ≤ xs.length) : cut xs (some (p : Int)) none = xs.drop p := by
  unfold cut
  rw [HT.sIx_nat, show HT.sIx xs.length xs.length none = xs.length by rfl, Nat.min_eq_left h]
  exact List.take_of_length_le (by simp)
theorem set_cut {α : Type} : ∀ (xs : List α) (p : Nat) (x : α), p < xs.length → xs.take p ++ [x] ++ xs.drop (p + 1) = xs.set p x
  | [], p, x, h => by simp at h
  | y :: r, 0, x, h => by simp
  | y :: r, p + 1, x, h => by
    have := set_cut r p x (by simpa using h)
    simpa using this
theorem addT {xs ys : List D} (h : xs.length + ys.length ≤ 1000000) (π : Rt) : addM (.tup xs) (.tup ys) π = .ok (.tup (xs ++ ys)) π := by
  show ((if xs.length + ys.length ≤ sizeLine then pure (.tup (xs ++ ys)) else EM.bad : EM D) π) = _
  rw [if_pos (Nat.le_trans h (by decide))]
  rfl
/-- value[:p] + (x,) + value[p + 1:] -/
def putW (wv wp wx : Ev → EM D) : Ev → EM D := eBin addM (eBin addM (eSl wv oNone (oSome wp)) (eTup (aCons wx aNil))) (eSl wv (oSome (eBin addM wp (eC (.int 1)))) oNone)
theorem putW_def (wv wp wx : Ev → EM D) : eBin addM (eBin addM (eSl wv oNone (oSome wp)) (eTup (aCons wx aNil))) (eSl wv (oSome (eBin addM wp (eC (.int 1)))) oNone) = putW wv wp wx := rfl
theorem put_okD (xs : List D) {p : Nat} (hp : p < xs.length) (hl : xs.length ≤ 400000) (x : D) (wv wp wx : Ev → EM D) (ρ : Ev) (π : Rt) (h1 : wv ρ π = .ok (.tup xs) π) (h2 : wp ρ π = .ok (.int (p : Int)) π) (h3 : wx ρ π = .ok x π) :
    putW wv wp wx ρ π = .ok (.tup (xs.set p x)) π := by
  have c1 : cut xs none (some (p : Int)) = xs.take p := cut_to _ (by omega)
  have c2 : cut xs (some ((p : Int) + 1)) none = xs.drop (p + 1) := by
    rw [show ((p : Int) + 1) = ((p + 1 : Nat) : Int) by omega, cut_from _ (by omega)]
  have a1 : addM (.tup (xs.take p)) (.tup [x]) π = .ok (.tup (xs.take p ++ [x])) π := addT (by simp; omega) π
  have a2 : addM (.tup (xs.take p ++ [x])) (.tup (xs.drop (p + 1))) π = .ok (.tup (xs.set p x)) π := by
    rw [addT (by simp; omega) π, set_cut xs p x hp]
  unfold putW
  simp [h1, h2, h3, c1, c2, a1, a2]
/-- a refusal -/
def kRaises (hs : List (DL.Tab × Str)) (z : Str) : Out D → Out D
  | .ok _ π' => .ok (.bl false) π'
  | .exc e π' => (match hR hs e with
    | some nm => .ok (.bl (decide (z = nm))) π'
    | none => .bad)
  | .bad => .bad
@[simp] theorem r_raises (hs : List (DL.Tab × Str)) (z : Str) (w : Ev → EM D) {ρ : Ev} {π : Rt} : eRaises hs z w ρ π = kRaises hs z (w ρ π) := by
  unfold eRaises kRaises
  cases w ρ π <;> rfl
theorem kRaises_exc {hs : List (DL.Tab × Str)} {z nm : Str} {e : Exn} {π : Rt} (h : hR hs e = some nm) : kRaises hs z (.exc e π) = .ok (.bl (decide (z = nm))) π := by
  unfold kRaises
  simp only [h]
@[simp] theorem kRaises_ok {hs : List (DL.Tab × Str)} {z : Str} {d : D} {π : Rt} : kRaises hs z (.ok d π) = .ok (.bl false) π := mk_ rfl
/-- one statement behind another -/
theorem step_nx {a b : SM} {ρ ρ1 : Ev} {π π1 : Rt} {P : SO → Prop} (h : a ρ π = .nx ρ1 π1) (k : P (b ρ1 π1)) : P (sSeq a b ρ π) := by
  rw [r_seq, h, soS_n]
  exact k
theorem for_cons {g : GM} {s : SM} {d : D} {ds : List D} {ρ ρ1 ρ2 : Ev} {π π2 : Rt} (h1 : g d ρ = some ρ1) (h2 : s ρ1 π = .nx ρ2 π2) : forGo g s (d :: ds) ρ π = forGo g s ds ρ2 π2 := by
  rw [forGo]
  simp only [h1, h2]
theorem for_nil {g : GM} {s : SM} {ρ : Ev} {π : Rt} : forGo g s [] ρ π = .nx ρ π := rfl
theorem rng_map (n : Nat) (h : D → D) : (rng 0 n).map h = (List.range n).map fun k => h (.int (k : Nat)) := by
  unfold rng
  rw [List.map_map]
  refine List.map_congr_left fun k _ => ?_
  show h (.int (0 + (k : Nat))) = _
  rw [Int.zero_add]
theorem atI_map (n : Nat) (f : Nat → D) {i : Int} (h0 : 0 ≤ i) (h1 : i < n) : atI ((List.range n).map f) i = some (f i.toNat) := by
  rw [atI_get h0 (by simp; omega)]
  simp
theorem log_64 {i : Int} (h : i.natAbs < 2 ^ 64) : i.natAbs.log2 < 1920 := by
  by_cases c : i.natAbs = 0
  · rw [c]
    decide
  · have : i.natAbs.log2 < 64 := (Nat.log2_lt c).mpr h
    omega
@[simp] theorem inst2_non {π : Rt} : instM [.non, .tup [.raw (.ty "list"), .raw (.ty "tuple")]] π = .ok (.bl false) π := mk_ rfl
@[simp] theorem inst2_bl (b : Bool) {π : Rt} : instM [.bl b, .tup [.raw (.ty "list"), .raw (.ty "tuple")]] π = .ok (.bl false) π := mk_ rfl
@[simp] theorem inst2_int (b : Int) {π : Rt} : instM [.int b, .tup [.raw (.ty "list"), .raw (.ty "tuple")]] π = .ok (.bl false) π := mk_ rfl
@[simp] theorem inst2_str (b : Str) {π : Rt} : instM [.str b, .tup [.raw (.ty "list"), .raw (.ty "tuple")]] π = .ok (.bl false) π := mk_ rfl
@[simp] theorem inst2_tup (b : List D) {π : Rt} : instM [.tup b, .tup [.raw (.ty "list"), .raw (.ty "tuple")]] π = .ok (.bl true) π := mk_ rfl
@[simp] theorem inst2_lst (b : List D) {π : Rt} : instM [.lst b, .tup [.raw (.ty "list"), .raw (.ty "tuple")]] π = .ok (.bl true) π := mk_ rfl
end DL

/-! texts joined, the first place of a thing in a list. -/
namespace DL
open PySem PySem.Spec PyProof.Rows L2
section
variable {X : Cx} {wd : Wd} {W : WS}
def asStrs : List D → Option (List Str)
  | [] => some []
  | .str x :: r => (asStrs r).map (x :: ·)
  | _ => none
theorem asStrs_vs {M : Md} {G : Hp} : ∀ {ds : List D} {vs : List V} {ns : List Str}, asStrs ds = some ns → DpAll M G vs ds → vs = ns.map V.str
  | [], _, _, h, .nil => by cases h; rfl
  | .str i :: r, _, ns, h, .cons a t => by
    obtain ⟨q, h1, rfl⟩ := Option.map_eq_some_iff.mp (show (asStrs r).map (i :: ·) = some ns from h)
    rw [asStrs_vs h1 t, a.i_str]
    rfl
theorem asStrs_map (ns : List Str) : asStrs (ns.map D.str) = some ns := by
  induction ns with
  | nil => rfl
  | cons a r ih => simp [asStrs, ih]
def joinO (a : Str) (xs : List D) : Option D := (asStrs xs).bind fun ys => if (ys.map (·.length)).sum + ys.length * a.length ≤ 16777216 then some (.str (Txt.join a ys)) else none
def joinL (a : Str) (xs : List D) : EM D := ofO (joinO a xs)
theorem joinO_some {a : Str} {xs : List D} {d : D} (h : joinO a xs = some d) : ∃ ys, asStrs xs = some ys ∧ (ys.map (·.length)).sum + ys.length * a.length ≤ 16777216 ∧ d = .str (Txt.join a ys) := by
  obtain ⟨ys, h1, h2⟩ := Option.bind_eq_some_iff.mp h
  split at h2
  · next c =>
    cases h2
    exact ⟨ys, h1, c, rfl⟩
  · cases h2
def joinM (a : Str) : D → EM D
  | .lst xs => joinL a xs
  | .tup xs => joinL a xs
  | _ => EM.bad
theorem de_join {e : Expr} {we : Ev → EM D} {z : Str} {kz : Nat} {pz apos pos : Pos} (he : DB X wd W e we) (hs : starEach [e] X.env = [(false, eval e X.env)] := by rfl) (hbase : attributeBase (.Constant (.str z) kz pz) "join" X.env (eval (.Constant (.str z) kz pz) X.env) = eval (.Constant (.str z) kz pz) X.env := by rfl) (hline : (apos.endLine == pos.line) = true := by rfl) :
    DE X wd W (.Call (.Attribute (.Constant (.str z) kz pz) "join" apos) [e] [] pos) (eUn (joinM z) we) := ⟨pe_imp (L2.pe_join pe_str he.pe hs hbase hline) fun σ H Q q => by
  obtain ⟨O, G, ρ, π, R, p⟩ := q
  refine ⟨⟨z, rfl⟩, O, G, ρ, π, R, Post.imp (Post.chain (rep1 := rB X) (o := we ρ π) p) fun u H2 y => ?_⟩
  obtain ⟨O2, G2, π2, d2, R2, S2, r2, p2⟩ := y
  unfold joinM at p2
  split at p2
  · next xs =>
    obtain ⟨d, ed, p2⟩ := post_ofO p2
    obtain ⟨ys, ey, c, rfl⟩ := joinO_some ed
    obtain ⟨a, vs, rfl, q1, q2⟩ := r2.i_lst R2
    obtain rfl := asStrs_vs ey q2
    exact ⟨z, a, ys, rfl, rfl, .inl (.inl (.inl q1)), c, Post.give (d := .str _) p2 R2 (.str _)⟩
  · next xs =>
    obtain ⟨d, ed, p2⟩ := post_ofO p2
    obtain ⟨ys, ey, c, rfl⟩ := joinO_some ed
    obtain ⟨a, vs, rfl, q1, q2, _⟩ := r2.i_tup R2
    obtain rfl := asStrs_vs ey q2
    exact ⟨z, a, ys, rfl, rfl, .inr q1, c, Post.give (d := .str _) p2 R2 (.str _)⟩
  · exact (post_bad p2).elim⟩
/-! l.index(x) -/
def indexO (xs : List D) (d : D) : Option D := (D.pys xs).bind fun ps => d.py.bind fun p => if SeqAt.shaped (.list ps) && SeqAt.shaped p then (ps.findIdx? fun z => PyData.eqv z p).map fun j => .int (j : Nat) else none
def indexL (xs : List D) (d : D) : EM D := ofO (indexO xs d)
theorem indexO_some {xs : List D} {d r : D} (h : indexO xs d = some r) : ∃ ps p j, D.pys xs = some ps ∧ d.py = some p ∧ SeqAt.shaped (.list ps) = true ∧ SeqAt.shaped p = true ∧ (ps.findIdx? fun z => PyData.eqv z p) = some j ∧ r = .int (j : Nat) := by
  obtain ⟨ps, h1, h⟩ := Option.bind_eq_some_iff.mp h
  obtain ⟨p, h2, h⟩ := Option.bind_eq_some_iff.mp h
  split at h
  · next c =>
    rw [Bool.and_eq_true] at c
    obtain ⟨j, h3, rfl⟩ := Option.map_eq_some_iff.mp h
    exact ⟨ps, p, j, h1, h2, c.1, c.2, h3, rfl⟩
  · cases h
def eIdx (wo we : Ev → EM D) : Ev → EM D := fun ρ => do
  let x ← wo ρ
  match x with
  | .lst xs => (do
    let y ← we ρ
    indexL xs y)
  | _ => EM.bad
theorem de_index {o e : Expr} {wo we : Ev → EM D} {apos cpos : Pos} (hu : X.A.units + 65 < cLine) (ho : DB X wd W o wo) (he : DB X wd W e we) (hbase : attributeBase o "index" X.env (eval o X.env) = eval o X.env := by rfl)
    (hfew : ((backTo cpos (starEach (e :: []) X.env)).all (fun x => !x.1) && (backToKw cpos (keywordEach [] X.env)).all (fun x => x.1.isSome) && decide ((e :: []).length + ([] : List Keyword).length + (if ([] : List Keyword).isEmpty then 0 else 1) < 30)) = true := by rfl)
    (hline : (apos.endLine == cpos.line) = true := by rfl) (hs : starEach (e :: []) X.env = (false, eval e X.env) :: starEach [] X.env := by rfl) (hplain : (backTo cpos (starEach [] X.env)).any (·.1) = false := by rfl) :
    DE X wd W (.Call (.Attribute o "index" apos) [e] [] cpos) (eIdx wo we) := ⟨pe_imp (pe_bm PySem.F.plainAttrs_list PySem.F.slot_list_index PySem.F.type_list_index (mt_indexD hu) ho.pe (pa_cons he.pe pa_nil hs) hbase hfew hline hs hplain) fun σ H Q q => by
  obtain ⟨O, G, ρ, π, R, p⟩ := q
  refine ⟨O, G, ρ, π, R, Post.imp (Post.chain (rep1 := rB X) (o := wo ρ π) p) fun v H1 z => ?_⟩
  obtain ⟨O1, G1, π1, d1, R1, S1, r1, p1⟩ := z
  split at p1
  · next xs =>
    obtain ⟨a, vs, rfl, q1, q2⟩ := r1.i_lst R1
    refine ⟨.inl ⟨rfl, _, .inl (.inl q1)⟩, O1, G1, ρ, π1, R1, Post.imp (Post.chain (rep1 := rB X) (o := we ρ π1) p1) fun u H2 y => ?_⟩
    obtain ⟨O2, G2, π2, d2, R2, S2, r2, p2⟩ := y
    obtain ⟨d, ed, p2⟩ := post_ofO p2
    obtain ⟨ps, pp, j, e1, e2, c1, c2, ej, rfl⟩ := indexO_some ed
    have hx : L2.Dp X.K H2 (V.ref a) (.list ps) := (rB.step r1 S2).py R2 (show (D.lst xs).py = some (.list ps) by rw [D.py, e1]; rfl)
    obtain ⟨hj, hz, hm⟩ := List.findIdx?_eq_some_iff_getElem.mp ej
    refine ⟨a, u, pp, ps, j, ps[j], rfl, rfl, hx, r2.py R2 e2, c1, c2, List.getElem?_eq_getElem hj, hz, fun m z' hmj hz' => ?_, Post.give (d := .int _) p2 R2 (.int _)⟩
    have hml : m < ps.length := by omega
    rw [List.getElem?_eq_getElem hml] at hz'
    cases hz'
    have := hm m hmj
    simpa using this
  · exact (post_bad p1).elim⟩
/-! how they reduce -/
def kIdx (we : Ev → EM D) (ρ : Ev) : D → Rt → Out D
  | .lst xs, π => (we ρ π).bind fun y π => indexL xs y π
  | _, _ => .bad
@[simp] theorem kIdx_ {we : Ev → EM D} {ρ : Ev} {xs : List D} {π : Rt} : kIdx we ρ (.lst xs) π = (we ρ π).bind fun y π => indexL xs y π := mk_ rfl
@[simp] theorem r_idx (wo we : Ev → EM D) {ρ : Ev} {π : Rt} : eIdx wo we ρ π = (wo ρ π).bind (kIdx we ρ) := by
  show (wo ρ π).bind _ = _
  congr 1
  funext x π
  cases x <;> rfl
@[simp] theorem join_lst {a : Str} {xs : List D} {π : Rt} : joinM a (.lst xs) π = joinL a xs π := mk_ rfl
@[simp] theorem join_tup {a : Str} {xs : List D} {π : Rt} : joinM a (.tup xs) π = joinL a xs π := mk_ rfl
theorem joinL_ok {a : Str} {ys : List Str} {π : Rt} (h : (ys.map (·.length)).sum + ys.length * a.length ≤ 16777216) : joinL a (ys.map D.str) π = .ok (.str (Txt.join a ys)) π := by
  unfold joinL joinO
  rw [asStrs_map, Option.bind_some, if_pos h]
  rfl
theorem indexL_ints {ns : List Int} {v : Int} {j : Nat} {π : Rt} (h : ns.findIdx? (fun z => decide (z = v)) = some j) : indexL (ns.map D.int) (.int v) π = .ok (.int (j : Nat)) π := by
  have sh : SeqAt.shaped (.list (ns.map PyData.int)) = true := shaped_0 (by simp only [PyData.canLay0]; exact lay_ints ns) (by simp only [PyData.depth, dep_ints]; decide)
  have e : (ns.map PyData.int).findIdx? (fun z => PyData.eqv z (.int v)) = some j := by
    rw [List.findIdx?_map, ← h]
    congr 1
  unfold indexL indexO
  rw [pys_ints]
  simp only [Option.bind_some, D.py, sh, shp_int, Bool.and_self, if_true, e]
  rfl
@[simp] theorem r_binF (f : D → D → EM (List D)) (a b : Ev → EM D) {ρ : Ev} {π : Rt} : eBinF f a b ρ π = (a ρ π).bind fun x π => (b ρ π).bind fun y π => f x y π := mk_ rfl
@[simp] theorem enu_tup {xs : List D} {π : Rt} : enuM [.tup xs] π = .ok (enu xs) π := mk_ rfl
@[simp] theorem enu_lst {xs : List D} {π : Rt} : enuM [.lst xs] π = .ok (enu xs) π := mk_ rfl
@[simp] theorem enu_str {z : Str} {π : Rt} : enuM [.str z] π = .ok (enu (chars z)) π := mk_ rfl
end
end DL

/-! defs as values; calls of names that hold them. -/
namespace DL
open PySem PySem.Spec PyProof.Rows L2
/-- the def at an address -/
def FnA (P : Program) (w : World) (K : PySem.W.Frag) (mg : Str → Option Value) (base : Heap) (a : Addr) (k n : Nat) (F : List D → EM RV) : Prop :=
  ∃ fd ps, FnOk P w K mg base (L2.CX P w) k a fd ps (spF ⟨K, mg⟩ none n F) ∧ PySem.W.keepIn K (.ref a) = true ∧ Binds K fd ps []
structure FnV (P : Program) (w : World) (K : PySem.W.Frag) (mg : Str → Option Value) (base : Heap) (x : Str) (a : Addr) (k n : Nat) (F : List D → EM RV) : Prop where
  m : mg x = some (.ref a)
  a : FnA P w K mg base a k n F
theorem FnG.v {P : Program} {w : World} {K : PySem.W.Frag} {mg : Str → Option Value} {base : Heap} {x : Str} {a : Addr} {k n : Nat} {F : List D → EM RV} (h : FnG P w K mg base x k none n F) (hm : mg x = some (.ref a)) : FnV P w K mg base x a k n F := by
  obtain ⟨f, fd, ps, h1, h2, h3, h4⟩ := h
  rw [hm] at h2
  cases h2
  exact ⟨hm, fd, ps, h1, h3, h4⟩
theorem FnV.gc {P : Program} {w : World} {K : PySem.W.Frag} {mg : Str → Option Value} {base : Heap} {x : Str} {a : Addr} {k n : Nat} {F : List D → EM RV} (h : FnV P w K mg base x a k n F) : Gc K mg x (.raw (.ref a)) := ⟨.ref a, .ref a, h.m, rfl, fun _ => .raw _⟩
def tCallVS (i : Nat) (S : Addr → Option Sp) (E : L2.St → XK) (t : TA) : TE := fun σ H Q => ∃ f sp, σ[i]? = some (some (.ref f)) ∧ S f = some sp ∧ t σ H fun vs H1 => sp vs H1 Q (E σ)
theorem pe_callVS {X : Cx} {CX : CXT} {k i : Nat} {S : Addr → Option Sp} {E : L2.St → XK} {x : Str} {p pos : Pos} {e : Expr} {es : List Expr} {t : TA} (A : ∀ f sp, S f = some sp → ∃ fd ps, FnOk X.prog X.w X.K X.mg X.base CX k f fd ps sp ∧ PySem.W.keepIn X.K (.ref f) = true ∧ Binds X.K fd ps [])
    (hr : Room k X.A) (hN : X.N[i]? = some x) (hv : Vis X.env.scope x) (hx : ∀ σ, PassesAt CX X σ (E σ)) (ha : PA X (e :: es) t) (hdb : (x == ("__debug__" : Str)) = false := by decide) (hcd : (x == ("__classdict__" : Str)) = false := by decide)
    (he : starEach (e :: es) X.env = (false, eval e X.env) :: starEach es X.env := by rfl) (hpl : (backTo pos (starEach es X.env)).any (·.1) = false := by rfl) : PE X (.Call (.Name x p) (e :: es) [] pos) (tCallVS i S E t) := by
  refine ⟨fun pins s σ H Q I h => ?_⟩
  obtain ⟨f, sp, hs, hS, ht⟩ := h
  obtain ⟨fd, ps, F, hk, hb⟩ := A f sp hS
  refine wpAny_Call_Name_kw (thn ((pe_var (pos := p) hN hv hdb hcd).run pins s σ H (fun v H1 => v = .ref f ∧ H1 = H) I ⟨.ref f, hs, rfl, rfl⟩) fun u s1 ⟨v, H1, I1, r1, q1⟩ => ?_)
  obtain ⟨rfl, rfl⟩ := q1
  cases r1
  refine PySem.W.callWith_K (h₀ := X.base) I.ok.mod.kin hk (thn (ha.run pos pins s1 σ _ _ I1 ht) fun us s2 ⟨vs, H2, I2, r, q⟩ => ⟨I2.kIn, ?_⟩) he hpl
  exact run_fnS F hr hb (hx σ) I2 r q
def eCallV (i : Nat) (tab : List (Addr × (List D → EM RV))) (ws : Ev → EM (List D)) : Ev → EM RV := fun ρ π => match ρ[i]? with
  | some (some (.dat (.raw (.ref a)))) => (match tab.lookup a with
    | some F => (ws ρ π).bind F
    | none => .bad)
  | _ => .bad
def TabA (P : Program) (w : World) (K : PySem.W.Frag) (mg : Str → Option Value) (base : Heap) (k n : Nat) (tab : List (Addr × (List D → EM RV))) : Prop := ∀ a F, tab.lookup a = some F → FnA P w K mg base a k n F
theorem tabA_nil {P : Program} {w : World} {K : PySem.W.Frag} {mg : Str → Option Value} {base : Heap} {k n : Nat} : TabA P w K mg base k n [] := fun _ _ h => by cases h
theorem tabA_cons {P : Program} {w : World} {K : PySem.W.Frag} {mg : Str → Option Value} {base : Heap} {k n : Nat} {a : Addr} {F : List D → EM RV} {tab : List (Addr × (List D → EM RV))} (h : FnA P w K mg base a k n F) (t : TabA P w K mg base k n tab) : TabA P w K mg base k n ((a, F) :: tab) := fun b G e => by
  rw [List.lookup_cons] at e
  split at e
  · next q =>
    cases e
    have : b = a := by simpa using q
    rw [this]
    exact h
  · exact t b G e
theorem dr_callV (i : Nat) {X : Cx} {wd : Wd} {W : WS} {x : Str} {k n : Nat} {tab : List (Addr × (List D → EM RV))} {e : Expr} {es : List Expr} {ws : Ev → EM (List D)} {p pos : Pos} (T : TabA X.prog X.w X.K X.mg X.base k n tab) (hr : Room k X.A) (hx : ∀ σ, PassesAt (L2.CX X.prog X.w) X σ (W σ)) (ha : DAr X wd W none (e :: es) ws)
    (hl : (e :: es).length = n := by rfl) (hN : X.N[i]? = some x := by rfl) (hv : Vis X.env.scope x := by first | exact Or.inl rfl | exact Or.inr (Or.inl rfl) | exact Or.inr (Or.inr rfl)) (hdb : (x == ("__debug__" : Str)) = false := by decide) (hcd : (x == ("__classdict__" : Str)) = false := by decide)
    (he : starEach (e :: es) X.env = (false, eval e X.env) :: starEach es X.env := by rfl) (hpl : (backTo pos (starEach es X.env)).any (·.1) = false := by rfl) :
    DR X wd W (.Call (.Name x p) (e :: es) [] pos) (eCallV i tab ws) := by
  refine ⟨pe_imp (pe_callVS (i := i) (S := fun f => (tab.lookup f).map fun F => spF ⟨X.K, X.mg⟩ none n F) (E := W) (fun f sp h => ?_) hr hN hv hx ha.pa hdb hcd he hpl) fun σ H Q q => ?_⟩
  · obtain ⟨F, h1, rfl⟩ := Option.map_eq_some_iff.mp h
    exact T f F h1
  obtain ⟨O, G, ρ, π, R, p⟩ := q
  unfold eCallV at p
  split at p
  · next a e1 =>
    split at p
    · next F e2 =>
      obtain ⟨v, h1, h2⟩ := R.slot i _ e1
      have hv : v = .ref a := by cases h2; rfl
      subst hv
      refine ⟨a, _, h1, (congrArg (Option.map fun F => spF ⟨X.K, X.mg⟩ none n F) e2 : _), O, G, ρ, π, R, Post.imp (Post.chain (rep1 := rAr X wd none (e :: es).length) p) fun vs H1 z => ?_⟩
      obtain ⟨O1, G1, π1, ds, R1, S1, ⟨r1, l1⟩, p1⟩ := z
      have hvn : vs.length = n := l1.trans hl
      refine ⟨G1, O0of O1, wd.r, ds, π1, hvn, R1.sub, R1.nt, fun b w h => ?_, ?_, r1, ?_⟩
      · obtain ⟨h5, h6⟩ := O0of_some h
        obtain ⟨a1, a2, _⟩ := R1.own b none h6
        exact ⟨h5, a1, a2⟩
      · have := R1.root
        cases π1 with
        | no => exact this
        | lst xs =>
          obtain ⟨a, vs, h1, h2, h3, h4⟩ := this
          exact ⟨a, vs, h1, O0of_iff.mpr h2, h3, h4⟩
      · cases eF : F ds π1 with
        | ok rv π2 =>
          rw [eF] at p1
          intro v O' G' H' T rep
          obtain ⟨O2, R2, S2, n2⟩ := R1.after T
          refine p1 v O2 G' H' R2 S2 ?_
          cases rv with
          | dat d => exact rep
          | lst xs =>
            obtain ⟨a, vs, q1, q2, q3, q4, q5, q6⟩ := rep
            refine ⟨a, vs, q1, q2, q3, n2 a q4 q5, ?_, q6⟩
            cases q' : wd.H0 a with
            | none => rfl
            | some u => exact absurd q4 (R1.there a (by rw [q']; exact fun z => by cases z))
        | exc e2 π2 =>
          rw [eF] at p1
          intro c dx O' G' H' T rep
          obtain ⟨O2, R2, S2, n2⟩ := R1.after T
          exact p1 c dx O2 G' H' R2 S2 rep
        | bad => rw [eF] at p1; exact p1.elim
    · exact p.elim
  · exact p.elim
theorem run_eq {s : SM} {rt : Option Nat} {m : Nat} {ds : List D} {π : Rt} (env : Ev) (h : ρ0 rt m ds = env) : runB s rt m ds π = outB (s env π) := by rw [r_run, h]
end DL

/-! sorted and max of lists and tuples, of numbers or of pairs of numbers. -/
namespace DL
open PySem PySem.Spec PyProof.Rows L2
section
variable {prog : Program} {w : World} {A : Around} {E : Value → Shared → Prop} {s : Shared}
theorem collect_tup {l : Addr} {vs : List Value} {Q : List Value → Shared → Prop} (hl : s.heap.IsTuple l vs.toArray)
    (h : Q vs { s with heap := (s.heap.push (seqObj "list" #[] 0)).update s.heap.objs.size (Obj.mapSeq (· ++ vs.toArray)) }) (hsz : vs.length ≤ sizeLine) :
    wpAny (model prog w) A (collect (.ref l)) Q E s := by
  obtain ⟨o, ho, hc, n, hd⟩ := id hl
  unfold collect
  refine wpAny_bind (wpAny_runValue (codeAny_builtin entry_proto_collect' ?_))
  show wpAny _ _ (do again (.builtin "list.__iadd__" ⟨[← newList [], .ref l], []⟩)) _ _ s
  refine wpAny_bind (wpAny_newList (wpAny_pure ⟨Code.quiet_builtin _ (by decide +kernel), codeAny_builtin entry_list_iadd' ?_⟩))
  show wpAny _ _ (Builtin.List.listExtendWith (.ref s.heap.objs.size) (.ref l) (.ref s.heap.objs.size)) _ _ { s with heap := s.heap.push (seqObj "list" #[] 0) }
  unfold Builtin.List.listExtendWith
  have ho' : (s.heap.push (seqObj "list" #[] 0)).get? l = some o := Heap.get?_push_of_some _ ho
  refine wpAny_bind (wpAny_typeOf (T := "tuple") ⟨o, ho', hc⟩ ?_)
  have ht : (Value.type "tuple" == Value.type "tuple") = true := by rfl
  rw [if_pos (by rw [ht]; simp)]
  refine wpAny_bind (listItems_at ho' hd ?_)
  refine wpAny_bind (listItems_at (xs := #[]) (n := 0) (Heap.get?_push_size _ rfl) rfl ?_)
  rw [if_neg (by simp)]
  refine wpAny_bind (listUpdate_at (xs := #[]) (n := 0) (Heap.get?_push_size _ rfl) rfl ?_ (Nat.zero_le _) (by show (#[] ++ vs.toArray).size ≤ sizeLine + 1; simp only [Array.size_append, List.size_toArray, List.length_nil]; omega))
  refine wpAny_pure ?_
  show wpAny (model prog w) A (do
      let o ← load s.heap.objs.size
      match o.data with
      | .seq xs _ => pure xs.toList
      | _ => unsupported "internal:collect") Q E { s with heap := (s.heap.push (seqObj "list" #[] 0)).update s.heap.objs.size (Obj.mapSeq (· ++ vs.toArray)) }
  refine wpAny_bind (wpAny_load (get?_update_seq (Heap.get?_push_size _ rfl) _) ?_)
  show wpAny _ _ (pure ((#[] : Array Value) ++ vs.toArray).toList) Q E _
  rw [show ((#[] : Array Value) ++ vs.toArray).toList = vs by simp]
  exact wpAny_pure h
open PySem.W Calls in
theorem sorted_of_sortT {l : Addr} {vs : List Value} {Q : Value → Shared → Prop} (hl : s.heap.IsTuple l vs.toArray) (hL : vs.length ≤ sizeLine)
    (body : ∀ E' : Value → Shared → Prop, wpAny (model prog w) A.in1.in1 (Builtin.«list.sort» ⟨[.ref (s.heap.objs.size + 1)], []⟩) (fun f s' => f = .done (.ret .none) ∧ Q (.ref (s.heap.objs.size + 1)) s') E' { s with heap := copyHeap s.heap vs }) :
    wpAny (model prog w) A (call (.builtin "sorted") [.ref l]) Q E s := by
  refine call_function_entry_kw kind_sorted plain_sorted entry_sorted (args_sorted1 _) ?_
  unfold Builtin.«sorted»
  refine wpAny_bind (m := checkCount "sorted" 1 1 _) (wpAny_pure ?_)
  refine wpAny_bind (collect_tup hl ?_ hL)
  refine wpAny_bind (wpAny_newList ?_ hL)
  have hsz : ((s.heap.push (seqObj "list" #[] 0)).update s.heap.objs.size (Obj.mapSeq (· ++ vs.toArray))).objs.size = s.heap.objs.size + 1 := by
    rw [Heap.size_update, size_push']
  show wpAny _ _ _ _ _ { s with heap := copyHeap s.heap vs }
  rw [hsz]
  refine wpAny_bind (wpAny_holding (wpAny_call_entry_kw slot_list_sort ⟨_, copyHeap_at s.heap vs, rfl⟩ entry_list_sort ?body (args_list_sort _)))
  case body =>
    show wpAny (model prog w) A.in1.in1 (Builtin.«list.sort» ⟨[.ref (s.heap.objs.size + 1)], []⟩) _ _ _
    refine wpAny_mono (body _) (fun f s' hf => ?_) fun _ _ e => e
    obtain ⟨rfl, hq⟩ := hf
    exact ⟨_, rfl, wpAny_pure ⟨_, rfl, hq⟩⟩
open PySem.W Calls in
theorem sorted_dataT {β : Type} {vs : List Value} {bs : List β} {enc : β → PyData} {R : Value → β → Prop} {l : Addr} {Q : Value → Shared → Prop} (hl : s.heap.IsTuple l vs.toArray) (e : EachIs R vs bs) (er : EachIs (fun v b => ∃ as, Reads s.heap v (enc b) as) vs bs) (hal : AllAlike (bs.map enc)) (hk : Sortable (bs.map enc)) (hL : bs.length ≤ sizeLine)
    (hu : ∀ b, b ∈ bs → A.units + 2 + (enc b).depth < cLine) (h : ∀ out, out.length = bs.length → EachIs R out (bs.mergeSort (dataLe false enc)) → Q (.ref (s.heap.objs.size + 1)) { s with heap := sortedAll s.heap vs (List.toArray out) }) :
    wpAny (model prog w) A (call (.builtin "sorted") [.ref l]) Q E s := by
  have er' : EachIs (fun v b => ∃ as, Reads (sortingHeap (copyHeap s.heap vs) (s.heap.objs.size + 1) vs) v (enc b) as) vs bs := er.mono fun _ _ ⟨as, r⟩ => ⟨as, PyProof.Rows.Reads.keeps (fun _ _ => sorting_copy_old) r⟩
  have hL' : vs.length ≤ sizeLine := by rw [e.length]; exact hL
  refine sorted_of_sortT hl hL' fun _ => list_sort_vals (s := { s with heap := copyHeap s.heap vs }) (copyHeap_at s.heap vs) (SortsAt.data (s := { s with heap := sortingHeap (copyHeap s.heap vs) (s.heap.objs.size + 1) vs }) (each_map (R := fun v d => ∃ as, Reads (sortingHeap (copyHeap s.heap vs) (s.heap.objs.size + 1) vs) v d as) enc er') hal hk (bound_map hu)) hL' ⟨rfl, ?_⟩
  exact h _ (by rw [sortVals_length false rfl]; exact e.length) (sortVals_data false e er' hal)
end
/-! as rules of the layer -/
section
variable {X : Cx} {γ : Type}
def rSrt (K : PySem.W.Frag) (enc : γ → PyData) : List V → Hp → VK → Prop := fun vs H Q => ∃ (a : Addr) (T : List (V × γ)), vs = [V.ref a] ∧ (SqL K H a (T.map Prod.fst) ∨ SqT K H a (T.map Prod.fst)) ∧ (∀ b ∈ T, L2.Dp K H b.1 (enc b.2)) ∧ T.length ≤ sizeLine ∧
  ∀ p, H p = none → Q (.ref p) (upd H p (.lst ((T.mergeSort (PySem.W.dataLe false fun b => enc b.2)).map Prod.fst)))
theorem vals_each {R : V × γ → Prop} : ∀ {T : List (V × γ)} {us : List Value}, Vals (T.map Prod.fst) us → PySem.W.EachIs (fun u b => RelV b.1 u ∧ b ∈ T) us T
  | [], _, h => by
    cases h
    exact .nil
  | b :: r, _, h => by
    cases h with
    | cons h1 h2 => exact .cons ⟨h1, List.mem_cons_self⟩ ((vals_each (R := R) h2).mono fun u b q => ⟨q.1, List.mem_cons_of_mem _ q.2⟩)
theorem each_vals : ∀ {T : List (V × γ)} {us : List Value}, PySem.W.EachIs (fun u (b : V × γ) => RelV b.1 u) us T → Vals (T.map Prod.fst) us
  | _, _, .nil => .nil
  | _, _, .cons h1 t => .cons h1 (each_vals t)
theorem cr_srt (hu : X.A.units + 65 < cLine) (enc : γ → PyData) (hd8 : ∀ g, (enc g).depth ≤ 8) (hal : ∀ b b', PySem.W.alike (enc b) (enc b') = true) (hk : (∀ b, ∃ x r, enc b = .tuple (x :: r)) ∨ ∀ b, enc b ≠ .none ∧ ∀ xs, enc b ≠ .tuple xs) : CallR X (.builtin "sorted") (rSrt X.K enc) := by
  intro pins s σ H vs us Q I r h
  obtain ⟨a, T, rfl, hs, hd, hL, q⟩ := h
  obtain ⟨u, rfl, ru⟩ := vals1 r
  obtain rfl : u = Value.ref a := ru
  have hal2 : PySem.W.AllAlike (T.map fun b => enc b.2) := PySem.W.AllAlike.of fun b b' => hal b.2 b'.2
  have hk2 : PySem.W.Sortable (T.map fun b => enc b.2) := hk.elim (fun k => PySem.W.Sortable.tuples fun b => k b.2) (fun k => PySem.W.Sortable.others fun b => k b.2)
  have hu2 : ∀ b, b ∈ T → X.A.units + 2 + (enc b.2).depth < cLine := fun b _ => by
    have := hd8 b.2
    omega
  have fin : ∀ (its : List Value), Vals (T.map Prod.fst) its → ∀ out, out.length = T.length → PySem.W.EachIs (fun u (b : V × γ) => RelV b.1 u) out (T.mergeSort (PySem.W.dataLe false fun b => enc b.2)) → EP X pins σ Q (.ref (s.heap.objs.size + 1)) { s with heap := sortedAll s.heap its (List.toArray out) } := fun its rv out ho eo => by
    obtain ⟨n, hn⟩ := sortedAll_at s.heap its out.toArray
    refine ⟨.ref (s.heap.objs.size + 1), upd H (s.heap.objs.size + 1) (.lst ((T.mergeSort (PySem.W.dataLe false fun b => enc b.2)).map Prod.fst)), I.laid (t' := s.toks) (fun b o e => sortedAll_old e) (Nat.le_succ _) ⟨?_, out, n, each_vals eo, hn⟩, rfl, q _ (I.hok.fresh (Nat.le_succ _))⟩
    rw [List.length_map, List.length_mergeSort]
    exact hL
  rcases hs with hs | hs
  · obtain ⟨its, rv, hl, hz⟩ := I.list hs
    have ee := vals_each (R := fun _ => True) rv
    exact PySem.W.sorted_data (R := fun u (b : V × γ) => RelV b.1 u) (enc := fun b => enc b.2) hl.isList (ee.mono fun u b z => z.1) (ee.mono fun u b z => L2.Dp.reads I (enc b.2) b.1 u (hd b z.2) z.1) hal2 hk2 hL hu2 (fin its rv)
  · obtain ⟨its, rv, hl, hz⟩ := I.tuple hs
    have ee := vals_each (R := fun _ => True) rv
    exact sorted_dataT (R := fun u (b : V × γ) => RelV b.1 u) (enc := fun b => enc b.2) hl (ee.mono fun u b z => z.1) (ee.mono fun u b z => L2.Dp.reads I (enc b.2) b.1 u (hd b z.2) z.1) hal2 hk2 hL hu2 (fin its rv)
end
/-! pairs of numbers -/
def plT (p : Int × Int) : D := .tup [.int p.1, .int p.2]
def encP (p : Int × Int) : PyData := .tuple [.int p.1, .int p.2]
def asPs : List D → Option (List (Int × Int))
  | [] => some []
  | .tup [.int a, .int b] :: r => (asPs r).map ((a, b) :: ·)
  | _ => none
theorem asPs_map (ps : List (Int × Int)) : asPs (ps.map plT) = some ps := by
  induction ps with
  | nil => rfl
  | cons a r ih => simp [asPs, plT, ih]
theorem asPs_ds : ∀ {ds : List D} {ps : List (Int × Int)}, asPs ds = some ps → ds = ps.map plT
  | [], _, h => by cases h; rfl
  | .tup [.int a, .int b] :: r, ps, h => by
    obtain ⟨q, h1, rfl⟩ := Option.map_eq_some_iff.mp (show (asPs r).map ((a, b) :: ·) = some ps from h)
    rw [asPs_ds h1]
    rfl
theorem asInts_ds : ∀ {ds : List D} {ps : List Int}, asInts ds = some ps → ds = ps.map D.int
  | [], _, h => by cases h; rfl
  | .int a :: r, ps, h => by
    obtain ⟨q, h1, rfl⟩ := Option.map_eq_some_iff.mp (show (asInts r).map (a :: ·) = some ps from h)
    rw [asInts_ds h1]
    rfl
def leP (p q : Int × Int) : Bool := decide (p.1 < q.1 ∨ (p.1 = q.1 ∧ p.2 ≤ q.2))
def sortP (ps : List (Int × Int)) : List (Int × Int) := ps.mergeSort leP
def sortI (ns : List Int) : List Int := ns.mergeSort fun a b => decide (a ≤ b)
def sortO (xs : List D) : Option (List D) := match asInts xs with
  | some ns => if ns.length ≤ sizeLine then some ((sortI ns).map .int) else none
  | none => (asPs xs).bind fun ps => if ps.length ≤ sizeLine then some ((sortP ps).map plT) else none
def sortM : List D → EM (List D)
  | [.lst xs] => ofO (sortO xs)
  | [.tup xs] => ofO (sortO xs)
  | _ => EM.bad
section
variable {X : Cx} {wd : Wd} {W : WS} {γ : Type}
theorem zip_dp {M : Md} {G : Hp} (f : γ → D) : ∀ {vs : List V} {ps : List γ}, DpAll M G vs (ps.map f) → (vs.zip ps).map Prod.fst = vs ∧ (vs.zip ps).map Prod.snd = ps ∧ ∀ b ∈ vs.zip ps, Dp M G b.1 (f b.2)
  | _, [], h => by
    cases h
    exact ⟨rfl, rfl, fun b z => absurd z List.not_mem_nil⟩
  | _, p :: r, h => by
    cases h with
    | cons h1 h2 =>
      obtain ⟨e1, e2, e3⟩ := zip_dp f h2
      refine ⟨by rw [List.zip_cons_cons, List.map_cons, e1], by rw [List.zip_cons_cons, List.map_cons, e2], fun b hb => ?_⟩
      rw [List.zip_cons_cons] at hb
      rcases List.mem_cons.mp hb with rfl | hb
      · exact h1
      · exact e3 b hb
theorem dp_of {M : Md} {G : Hp} (f : γ → D) : ∀ {T : List (V × γ)}, (∀ b ∈ T, Dp M G b.1 (f b.2)) → DpAll M G (T.map Prod.fst) (T.map fun b => f b.2)
  | [], _ => .nil
  | b :: r, h => .cons (h b List.mem_cons_self) (dp_of f fun z hz => h z (List.mem_cons_of_mem _ hz))
theorem srt_dp {M : Md} {G : Hp} (f : γ → D) (le : γ → γ → Bool) {vs : List V} {ps : List γ} (h : DpAll M G vs (ps.map f)) : DpAll M G (((vs.zip ps).mergeSort fun a b => le a.2 b.2).map Prod.fst) ((ps.mergeSort le).map f) := by
  obtain ⟨e1, e2, e3⟩ := zip_dp f h
  have q := dp_of f (T := (vs.zip ps).mergeSort fun a b => le a.2 b.2) fun b hb => e3 b (List.mem_mergeSort.mp hb)
  have e4 : ((vs.zip ps).mergeSort fun a b => le a.2 b.2).map Prod.snd = ps.mergeSort le := by
    rw [List.map_mergeSort (s := le) (f := Prod.snd) fun a _ b _ => rfl, e2]
  have e5 : ((vs.zip ps).mergeSort fun a b => le a.2 b.2).map (fun b => f b.2) = (ps.mergeSort le).map f := by
    rw [← e4, List.map_map]
    rfl
  rw [e5] at q
  exact q
theorem dp_encP {M : Md} {G H : Hp} (e : Same G H) {v : V} {p : Int × Int} (h : Dp M G v (plT p)) : L2.Dp M.K H v (encP p) := h.py e (by simp only [plT, D.py, D.pys, Option.map_some]; rfl)
theorem dp_encI {M : Md} {G H : Hp} (e : Same G H) {v : V} {p : Int} (h : Dp M G v (.int p)) : L2.Dp M.K H v (.int p) := h.py e (by simp only [D.py])
theorem b_sorted (hm : X.mg "sorted" = none) (hu : X.A.units + 65 < cLine) : BltF X wd W "sorted" sortM := ⟨hm, by decide, by decide, .inl ⟨_, _, by decide +kernel, (cr_srt hu (fun i : Int => PyData.int i) (fun g => by simp only [PyData.depth]; omega) (fun b b' => by simp [PySem.W.alike]) (Or.inr fun b => And.intro (fun z => PyData.noConfusion z) (fun xs z => PyData.noConfusion z))).or (cr_srt hu encP (fun g => by simp only [encP, PyData.depth, PyData.depthAll]; decide) (fun b b' => by simp [PySem.W.alike, PySem.W.alikeAll, encP]) (.inl fun b => ⟨_, _, rfl⟩)), fun O G σ H ρ π Q vs ds R r p => by
  have fin : ∀ (xs : List D) (a : Addr) (ws : List V), (SqL X.K H a ws ∨ SqT X.K H a ws) → DpAll (md X) G ws xs → Post X wd W (rF X wd) O G σ H ρ Q (ofO (sortO xs) π) → rSrt X.K (fun i : Int => PyData.int i) [V.ref a] H Q ∨ rSrt X.K encP [V.ref a] H Q := fun xs a ws hs q2 p => by
    obtain ⟨d, q, p⟩ := post_ofO p
    unfold sortO at q
    cases e : asInts xs with
    | some ns =>
      rw [e] at q
      simp only at q
      split at q
      · next c =>
        cases q
        rw [asInts_ds e] at q2
        obtain ⟨e1, e2, e3⟩ := zip_dp D.int q2
        have hln : ws.length = ns.length := by rw [q2.length, List.length_map]
        refine .inl ⟨a, ws.zip ns, rfl, by rw [e1]; exact hs, fun b hb => dp_encI R.sub (e3 b hb), by rw [List.length_zip]; omega, fun c n => ?_⟩
        have := srt_dp D.int (fun a b => decide (a ≤ b)) q2
        rw [PySem.W.dataLe_int]
        exact Post.giveF p R this n
      · cases q
    | none =>
      rw [e] at q
      obtain ⟨ps, e', q⟩ := Option.bind_eq_some_iff.mp q
      split at q
      · next c =>
        cases q
        rw [asPs_ds e'] at q2
        obtain ⟨e1, e2, e3⟩ := zip_dp plT q2
        have hln : ws.length = ps.length := by rw [q2.length, List.length_map]
        refine .inr ⟨a, ws.zip ps, rfl, by rw [e1]; exact hs, fun b hb => dp_encP R.sub (e3 b hb), by rw [List.length_zip]; omega, fun c n => ?_⟩
        have := srt_dp plT leP q2
        have ed : PySem.W.dataLe false (fun b : V × (Int × Int) => encP b.2) = fun a b => leP a.2 b.2 := PySem.W.dataLe_ii (fun b : V × (Int × Int) => b.2.1) fun b => b.2.2
        rw [ed]
        exact Post.giveF p R this n
      · cases q
  unfold sortM at p
  split at p
  · next xs =>
    obtain ⟨v, rfl, h⟩ := r.one
    obtain ⟨a, ws, rfl, q1, q2⟩ := h.i_lst R
    exact fin xs a ws (.inl (SqL.of q1)) q2 p
  · next xs =>
    obtain ⟨v, rfl, h⟩ := r.one
    obtain ⟨a, ws, rfl, q1, q2, q3⟩ := h.i_tup R
    exact fin xs a ws (.inr q1) q2 p
  · exact (post_bad p).elim⟩⟩
/-! max -/
def maxP (p : Int × Int) (ps : List (Int × Int)) : Int × Int := ps.foldl (fun a y => if a.1 < y.1 ∨ (a.1 = y.1 ∧ a.2 < y.2) then y else a) p
theorem maxP_enc : ∀ (ps : List (Int × Int)) (p : Int × Int), PySem.W.maxD (encP p) (ps.map encP) = encP (maxP p ps)
  | [], p => rfl
  | q :: r, p => by
    show PySem.W.maxD (if PySem.W.dataLt (encP p) (encP q) = true then encP q else encP p) (r.map encP) = encP (maxP (if p.1 < q.1 ∨ (p.1 = q.1 ∧ p.2 < q.2) then q else p) r)
    have e : PySem.W.dataLt (encP p) (encP q) = decide (p.1 < q.1 ∨ (p.1 = q.1 ∧ p.2 < q.2)) := PySem.W.dataLt_ii _ _ _ _
    rw [e]
    by_cases c : p.1 < q.1 ∨ (p.1 = q.1 ∧ p.2 < q.2)
    · rw [decide_eq_true c, if_pos rfl, if_pos c, maxP_enc r]
    · rw [decide_eq_false c, if_neg (by decide), if_neg c, maxP_enc r]
theorem encP_inj {p q : Int × Int} (h : encP p = encP q) : p = q := by
  unfold encP at h
  injection h with h
  injection h with h1 h2
  injection h1 with h1
  injection h2 with h2 _
  injection h2 with h2
  exact Prod.ext h1 h2
def rMaxP (K : PySem.W.Frag) : List V → Hp → VK → Prop := fun vs H Q => ∃ (a : Addr) (b : V × (Int × Int)) (T : List (V × (Int × Int))), vs = [V.ref a] ∧ SqL K H a ((b :: T).map Prod.fst) ∧ (∀ c ∈ b :: T, L2.Dp K H c.1 (encP c.2)) ∧ ∀ c ∈ b :: T, c.2 = maxP b.2 (T.map Prod.snd) → Q c.1 H
theorem alike_P : ∀ ps : List (Int × Int), PySem.W.AlikeAll (ps.map encP) := fun ps => by
  refine ⟨fun x hx y hy => ?_, fun x hx z => ?_⟩
  · obtain ⟨p, _, rfl⟩ := List.mem_map.mp hx
    obtain ⟨q, _, rfl⟩ := List.mem_map.mp hy
    simp [PySem.W.alike, PySem.W.alikeAll, encP]
  · obtain ⟨p, _, rfl⟩ := List.mem_map.mp hx
    cases z
theorem depth_P : ∀ ps : List (Int × Int), PyData.depthAll (ps.map encP) ≤ 1
  | [] => by simp only [List.map_nil, PyData.depthAll]; omega
  | p :: r => by
    have := depth_P r
    rw [List.map_cons, PyData.depthAll]
    have h1 : (encP p).depth = 1 := by simp only [encP, PyData.depth, PyData.depthAll]; rfl
    omega
theorem l2dp_all {K : PySem.W.Frag} {H : Hp} : ∀ {T : List (V × (Int × Int))}, (∀ c ∈ T, L2.Dp K H c.1 (encP c.2)) → L2.DpAll K H (T.map Prod.fst) (T.map fun c => encP c.2)
  | [], _ => .nil
  | b :: r, h => .cons (h b List.mem_cons_self) (l2dp_all fun z hz => h z (List.mem_cons_of_mem _ hz))
theorem cr_maxP (hc : X.calm = true) (hu : X.A.units + 65 < cLine) : CallR X (.builtin "max") (rMaxP X.K) := by
  intro pins s σ H vs us Q I r h
  obtain ⟨a, b, T, rfl, hs, hd, q⟩ := h
  obtain ⟨its, rv, hl, hz⟩ := I.list hs
  rw [Vals.ref1 r]
  obtain ⟨as, hr⟩ := L2.Dp.readsAll I _ _ its (l2dp_all hd) rv
  have e0 : ((b :: T).map fun c => encP c.2) = encP b.2 :: (T.map Prod.snd).map encP := by rw [List.map_cons, List.map_map]; rfl
  rw [e0] at hr
  have ha := alike_P (b.2 :: T.map Prod.snd)
  have hdp := depth_P (b.2 :: T.map Prod.snd)
  rw [List.map_cons] at ha hdp
  refine PySem.W.max_list_data (I.ok.hd hc) hl.isList (by rw [List.toList_toArray]; exact hr) ha (by omega) fun i v h' tk bs hi rd hk => ?_
  rw [maxP_enc] at rd
  have hi' : its[i]? = some v := by simpa using hi
  have hil : i < (b :: T).length := by
    have := (List.getElem?_eq_some_iff.mp hi').1
    rw [← rv.length, List.length_map] at this
    exact this
  obtain ⟨v', hv', rel⟩ := rv.get (xs := (b :: T).map Prod.fst) (i := i) (x := ((b :: T)[i]).1) (by rw [List.getElem?_map, List.getElem?_eq_getElem hil]; rfl)
  rw [hi'] at hv'
  cases hv'
  have hm := List.getElem_mem hil
  obtain ⟨as2, r2⟩ := L2.Dp.reads I (encP ((b :: T)[i]).2) ((b :: T)[i]).1 v (hd _ hm) rel
  have ee : encP ((b :: T)[i]).2 = encP (maxP b.2 (T.map Prod.snd)) := PySem.SeqAt.Reads.unique _ _ v _ _ (by simp [encP, PyData.canLay0, PyData.canLayAll0]) (PyProof.Rows.Reads.keeps hk r2) rd
  exact ⟨((b :: T)[i]).1, H, I.kept hk, rel, q _ hm (encP_inj ee)⟩
def maxXM : List D → EM D
  | [.lst xs] => (match asInts xs with
    | some _ => maxM [.lst xs]
    | none => ofO ((asPs xs).bind fun ps => match ps with
      | p :: r => some (plT (maxP p r))
      | [] => none))
  | ds => maxM ds
theorem b_maxX (hm : X.mg "max" = none) (hc : X.calm = true) (hu : X.A.units + 65 < cLine) : BltR X wd W "max" maxXM := by
  obtain ⟨m1, m2, m3, ⟨id, r0, hb, hc0, hs0⟩ | ⟨T, r0, hb, _⟩⟩ := b_max (wd := wd) (W := W) hm hc
  · have hid : id = "max" := by
      have : bootBuiltins "max" = some (.builtin "max") := by decide +kernel
      rw [this] at hb
      cases hb
      rfl
    subst hid
    refine ⟨m1, m2, m3, .inl ⟨_, _, hb, hc0.or (cr_maxP hc hu), fun O G σ H ρ π Q vs ds R r p => ?_⟩⟩
    unfold maxXM at p
    split at p
    · next xs =>
      cases e : asInts xs with
      | some ns =>
        rw [e] at p
        exact .inl (hs0 _ _ _ _ _ _ _ _ _ R r p)
      | none =>
        rw [e] at p
        obtain ⟨v, rfl, h⟩ := r.one
        obtain ⟨a, ws, rfl, q1, q2⟩ := h.i_lst R
        obtain ⟨d, q, p⟩ := post_ofO p
        obtain ⟨ps, e', q⟩ := Option.bind_eq_some_iff.mp q
        cases ps with
        | nil => cases q
        | cons p0 pr =>
          cases q
          rw [asPs_ds e'] at q2
          cases q2 with
          | @cons v0 vr d0 dr h1 h2 =>
            obtain ⟨e1, e2, e3⟩ := zip_dp plT h2
            refine .inr ⟨a, (v0, p0), vr.zip pr, rfl, by rw [List.map_cons, e1]; exact SqL.of q1, fun c hc' => ?_, fun c hc' hm' => ?_⟩
            · rcases List.mem_cons.mp hc' with rfl | hc'
              · exact dp_encP R.sub h1
              · exact dp_encP R.sub (e3 c hc')
            · rw [e2] at hm'
              refine Post.give p R ?_
              rw [← hm']
              rcases List.mem_cons.mp hc' with rfl | hc'
              · exact h1
              · exact e3 c hc'
    · exact .inl (hs0 _ _ _ _ _ _ _ _ _ R r p)
  · have : bootBuiltins "max" = some (.builtin "max") := by decide +kernel
    rw [this] at hb
    cases hb
theorem sortM_ps {ps : List (Int × Int)} (hn : ps ≠ []) (h : ps.length ≤ 1000000) (π : Rt) : sortM [.lst (ps.map plT)] π = .ok ((sortP ps).map plT) π ∧ sortM [.tup (ps.map plT)] π = .ok ((sortP ps).map plT) π := by
  have hz : (1000000 : Nat) ≤ sizeLine := by decide
  have e1 : asInts (ps.map plT) = none := by
    cases ps with
    | nil => exact absurd rfl hn
    | cons p r => rfl
  have e : sortO (ps.map plT) = some ((sortP ps).map plT) := by
    unfold sortO
    rw [e1, asPs_map]
    show (if ps.length ≤ sizeLine then some ((sortP ps).map plT) else none) = _
    rw [if_pos (by omega)]
  exact ⟨by show ofO (sortO (ps.map plT)) π = _; rw [e]; rfl, by show ofO (sortO (ps.map plT)) π = _; rw [e]; rfl⟩
theorem maxXM_ps (p : Int × Int) (ps : List (Int × Int)) (π : Rt) : maxXM [.lst ((p :: ps).map plT)] π = .ok (plT (maxP p ps)) π := by
  have e1 : asInts ((p :: ps).map plT) = none := rfl
  show (match asInts ((p :: ps).map plT) with
    | some _ => maxM [.lst ((p :: ps).map plT)]
    | none => ofO ((asPs ((p :: ps).map plT)).bind fun ps => match ps with
      | p :: r => some (plT (maxP p r))
      | [] => none) : EM D) π = _
  rw [e1]
  show ofO ((asPs ((p :: ps).map plT)).bind fun ps => match ps with
      | p :: r => some (plT (maxP p r))
      | [] => none) π = _
  rw [asPs_map]
  rfl
theorem maxXM_ints (ns : List Int) (h : ns ≠ []) (π : Rt) : maxXM [.lst (ns.map D.int)] π = .ok (.int (maxL ns)) π := by
  show (match asInts (ns.map D.int) with
    | some _ => maxM [.lst (ns.map D.int)]
    | none => ofO ((asPs (ns.map D.int)).bind fun ps => match ps with
      | p :: r => some (plT (maxP p r))
      | [] => none) : EM D) π = _
  rw [asInts_map]
  show ofO (((asInts (ns.map D.int)).bind ne1).map fun ns => D.int (maxL ns)) π = _
  rw [asInts_map, Option.bind_some]
  unfold ne1
  rw [if_neg (by simpa using h)]
  rfl
end
end DL

/-! names bound together, by a tuple: data and lists that stay the names' own. -/
namespace DL
open PySem PySem.Spec PyProof.Rows L2
section
variable {X : Cx} {wd : Wd} {W : WS}
def gNames (is : List Nat) : TGs := fun vs σ H Q => vs.length = is.length ∧ Q (setVs is vs σ) H
theorem gnm_nil : PGs X [] (gNames []) := ⟨fun pins s σ H v u Q I r h => pgs_nil.run pins s σ H v u Q I r (by
  obtain ⟨h1, h2⟩ := h
  have : v = [] := List.length_eq_zero_iff.mp h1
  subst this
  exact ⟨rfl, h2⟩)⟩
theorem gnm_cons (i : Nat) {x : Str} {pos : Pos} {es : List Expr} {is : List Nat} (hN : X.N.Nodup) (h2 : PGs X es (gNames is)) (hi : X.N[i]? = some x := by rfl) (hx : Loc X.env.scope x := by first | exact Or.inl rfl | exact Or.inr rfl) (hf : X.fn x = true ∨ X.env.scope.names.lookup x = some .local := by first | exact .inl rfl | exact .inr rfl)
    (hs : (assignEach (.Name x pos :: es) X.env).map (·.2) = assign (.Name x pos) X.env :: (assignEach es X.env).map (·.2) := by rfl) : PGs X (.Name x pos :: es) (gNames (i :: is)) := ⟨fun pins s σ H v u Q I r h => (pgs_cons (pg_name (pos := pos) hN hi hx hf) h2 hs).run pins s σ H v u Q I r (by
  obtain ⟨h1, h3⟩ := h
  cases v with
  | nil => cases h1
  | cons w ws => exact ⟨w, ws, rfl, by simpa using h1, h3⟩)⟩
theorem ds_asgK (kk : Nat) {is : List Nat} {es tgs : List Expr} {w : Ev → EM (List KV)} {kt k2 : _} {pt pt2 pos : Pos} {n : Nat} (hc : X.calm = true) (ha : DKs X wd W kk es w) (hg : PGs X tgs (gNames is)) (hl : is.length ≤ 10 := by decide) (hil : is.length = n := by rfl) (hn : (assignEach tgs X.env).length = n := by rfl) (hst : (assignEach tgs X.env).findIdx? (·.1) = none := by rfl)
    (hs : swapsWithSole [.Tuple tgs kt pt] (.Tuple es k2 pt2) pos.line X.env = pure false := by rfl) (hw : swappedStores [.Tuple tgs kt pt] (.Tuple es k2 pt2) X.env = pure none := by rfl)
    (h1 : (assignEach [.Tuple tgs kt pt] X.env).map (·.2) = [assign (.Tuple tgs kt pt) X.env] := by rfl) : DS X wd W (.Assign [.Tuple tgs kt pt] (.Tuple es k2 pt2) pos) (sPar kk is w) := ⟨ps_imp (ps_asg (pe_tup ha.pa) (pg_tup hc hg hn hst) hs hw h1) fun D σ H q => by
  obtain ⟨O, G, ρ, π, R, p⟩ := q
  unfold sPar at p
  split at p
  · next hk =>
    refine ⟨O, G, ρ, π, R, hk, Post.imp (PostS.expr p) fun vs H' z => ?_⟩
    obtain ⟨O', G', π', ks, R', S', r', p'⟩ := z
    have p2 : PostS X wd W G' D (match bindK is ks ρ with
      | some ρ' => .nx ρ' π'
      | none => .bad) := p'
    clear p'
    split at p2
    · next ρ' e =>
      obtain ⟨O2, R2, l⟩ := R'.bindK r' hk e
      have hz : (10 : Nat) ≤ sizeLine := by decide
      refine ⟨by omega, fun a fr => ⟨a, vs, rfl, ?_, l.trans hil, l, ?_⟩⟩
      · exact .inl (.inl (upd_same ..))
      · obtain ⟨R3, S3, _⟩ := R2.alloc (o := .tup vs) fr
        exact p2.nx R3 (Same.refl _)
    · exact p2.elim
  · exact p.elim⟩
end
end DL

/-! list(range(..)); a list's item that is taken out into another list; while True. -/
namespace DL
open PySem PySem.Spec PyProof.Rows L2
section
variable {X : Cx} {wd : Wd} {W : WS} {O : Own} {G G1 : Hp} {σ : L2.St} {H : Hp} {ρ : Ev} {π : Rt} {Dn : Ends}
variable {a b e : Expr} {wa wb w : Ev → EM D} {pos : Pos}
def lrM : D → D → EM (List D)
  | .int i, .int j => if inR i && inR j && decide ((j - i).toNat ≤ most) then pure (rng i (j - i).toNat) else EM.bad
  | _, _ => EM.bad
theorem dp_rng {M : Md} (i j : Int) : DpAll M G (rgV i j) (rng i (j - i).toNat) := by
  unfold rgV rng
  generalize (j - i).toNat = n
  have : ∀ ks : List Nat, DpAll M G (ks.map fun k => V.int (i + (k : Nat))) (ks.map fun (k : Nat) => D.int (i + k)) := by
    intro ks
    induction ks with
    | nil => exact .nil
    | cons k r ih => exact .cons (.int _) ih
  exact this _
theorem lr_out {σ : L2.St} {Q : VK} {i j : Int} (R : RW (md X) wd O G σ H ρ π) (p : Post X wd W (rF X wd) O G σ H ρ Q (lrM (.int i) (.int j) π)) : RgOk i j ∧ ∀ q, H q = none → Q (.ref q) (upd H q (.lst (rgV i j))) := by
  unfold lrM at p
  dsimp only at p
  split at p
  · next c =>
    rw [Bool.and_eq_true, Bool.and_eq_true, decide_eq_true_eq] at c
    obtain ⟨⟨c1, c2⟩, c3⟩ := c
    obtain ⟨a1, a2⟩ := inR_of c1
    obtain ⟨b1, b2⟩ := inR_of c2
    refine ⟨⟨a1, a2, b1, b2, Nat.le_trans c3 (by decide)⟩, fun q n => p.giveF R (dp_rng i j) n⟩
  · exact p.elim
theorem df_listRg2 {p p2 pos pos2 : Pos} (hc : X.calm = true) (hg : Gl X "list") (hm : X.mg "list" = none) (hg2 : Gl X "range") (hm2 : X.mg "range" = none) (ha : DE X wd W a wa) (hb : DE X wd W b wb)
    (na : starEach [.Call (.Name "range" p2) [a, b] [] pos2] X.env = (false, eval (.Call (.Name "range" p2) [a, b] [] pos2) X.env) :: starEach [] X.env := by rfl)
    (nb : starEach [a, b] X.env = (false, eval a X.env) :: starEach [b] X.env := by rfl) (nc : starEach [b] X.env = (false, eval b X.env) :: starEach [] X.env := by rfl) (hp : (backTo pos2 (starEach [b] X.env)).any (·.1) = false := by rfl) :
    DF X wd W (.Call (.Name "list" p) [.Call (.Name "range" p2) [a, b] [] pos2] [] pos) (eBinF lrM wa wb) := ⟨pe_imp (pe_listRg hc hg hm (prg_2 hg2 hm2 ha.pe hb.pe nb nc hp) na) fun σ H Q q => by
  obtain ⟨O, G, ρ, π, R, p⟩ := q
  refine ⟨O, G, ρ, π, R, Post.imp (Post.chain (rep1 := rD X) p) fun x H1 z => ?_⟩
  obtain ⟨O1, G1, π1, d1, R1, S1, r1, p1⟩ := z
  refine ⟨O1, G1, ρ, π1, R1, Post.imp (Post.chain (rep1 := rD X) (o := wb ρ π1) p1) fun y H2 z => ?_⟩
  obtain ⟨O2, G2, π2, d2, R2, S2, r2, p2⟩ := z
  have p3 : Post X wd W (rF X wd) O2 G2 σ H2 ρ Q (lrM d1 d2 π2) := p2
  clear p2 p1 p
  have r1 : Dp (md X) G2 x d1 := Dp.mono S2.sg r1
  have r2 : Dp (md X) G2 y d2 := r2
  cases d1 with
  | int i => cases d2 with
    | int j => exact ⟨i, j, r1.i_int, r2.i_int, lr_out R2 p3⟩
    | _ => exact p3.elim
  | _ => exact p3.elim⟩
theorem df_listRg1 {p p2 pos pos2 : Pos} (hc : X.calm = true) (hg : Gl X "list") (hm : X.mg "list" = none) (hg2 : Gl X "range") (hm2 : X.mg "range" = none) (ha : DE X wd W a wa)
    (na : starEach [.Call (.Name "range" p2) [a] [] pos2] X.env = (false, eval (.Call (.Name "range" p2) [a] [] pos2) X.env) :: starEach [] X.env := by rfl)
    (nb : starEach [a] X.env = (false, eval a X.env) :: starEach [] X.env := by rfl) :
    DF X wd W (.Call (.Name "list" p) [.Call (.Name "range" p2) [a] [] pos2] [] pos) (eBinF lrM (eC (.int 0)) wa) := ⟨pe_imp (pe_listRg hc hg hm (prg_1 hg2 hm2 ha.pe nb) na) fun σ H Q q => by
  obtain ⟨O, G, ρ, π, R, p⟩ := q
  have p : Post X wd W (rF X wd) O G σ H ρ Q ((wa ρ π).bind fun y π' => lrM (.int 0) y π') := p
  refine ⟨O, G, ρ, π, R, Post.imp (Post.chain (rep1 := rD X) p) fun x H1 z => ?_⟩
  obtain ⟨O1, G1, π1, d1, R1, S1, r1, p1⟩ := z
  cases d1 with
  | int j =>
    have r1 : Dp (md X) G1 x (.int j) := r1
    exact ⟨j, r1.i_int, lr_out R1 p1⟩
  | _ => exact p1.elim⟩
/-- x.append((c, y.pop(e))) -/
def popF (ys : List D) : D → Option (D × List D)
  | .int k => if inR k then (ixN ys.length k).bind fun n => ys[n]?.map fun d => (d, ys.eraseIdx n) else none
  | _ => none
def sAppPop (i j : Nat) (wc w : Ev → EM D) : SM := fun ρ π => match ρ[i]?, ρ[j]? with
  | some (some (.lst xs)), some (some (.lst ys)) => SO.of ρ (wc ρ π) fun c π1 => SO.of ρ (w ρ π1) fun k π2 => (match popF ys k with
    | some (d, zs) => if xs.length < most then .nx ((ρ.set j (some (.lst zs))).set i (some (.lst (xs ++ [.tup [c, d]])))) π2 else .bad
    | none => .bad)
  | _, _ => .bad
theorem ds_appPop (i j : Nat) {x y : Str} {c : Expr} {wc : Ev → EM D} {p apos cpos py ay cy tp : Pos} {tk : _} (hij : i ≠ j := by decide) (hc : DE X wd W c wc) (he : DE X wd W e w) (hN : X.N[i]? = some x := by rfl) (hNj : X.N[j]? = some y := by rfl)
    (hv : Vis X.env.scope x := by first | exact Or.inl rfl | exact Or.inr (Or.inl rfl) | exact Or.inr (Or.inr rfl)) (hd : (x == ("__debug__" : Str)) = false := by decide) (hcd : (x == ("__classdict__" : Str)) = false := by decide)
    (hvy : Vis X.env.scope y := by first | exact Or.inl rfl | exact Or.inr (Or.inl rfl) | exact Or.inr (Or.inr rfl)) (hdy : (y == ("__debug__" : Str)) = false := by decide) (hcdy : (y == ("__classdict__" : Str)) = false := by decide)
    (hbase : attributeBase (.Name x p) "append" X.env (eval (.Name x p) X.env) = eval (.Name x p) X.env := by rfl) (hbasey : attributeBase (.Name y py) "pop" X.env (eval (.Name y py) X.env) = eval (.Name y py) X.env := by rfl)
    (hfewy : ((backTo cy (starEach (e :: []) X.env)).all (fun x => !x.1) && (backToKw cy (keywordEach [] X.env)).all (fun x => x.1.isSome) && decide ((e :: []).length + ([] : List Keyword).length + (if ([] : List Keyword).isEmpty then 0 else 1) < 30)) = true := by rfl)
    (hliney : (ay.endLine == cy.line) = true := by rfl) (hsy : starEach (e :: []) X.env = (false, eval e X.env) :: starEach [] X.env := by rfl) (hplainy : (backTo cy (starEach [] X.env)).any (·.1) = false := by rfl)
    (s1 : starEach [c, .Call (.Attribute (.Name y py) "pop" ay) [e] [] cy] X.env = (false, eval c X.env) :: starEach [.Call (.Attribute (.Name y py) "pop" ay) [e] [] cy] X.env := by rfl)
    (s2 : starEach [.Call (.Attribute (.Name y py) "pop" ay) [e] [] cy] X.env = (false, eval (.Call (.Attribute (.Name y py) "pop" ay) [e] [] cy) X.env) :: starEach [] X.env := by rfl)
    (hfew : ((backTo cpos (starEach ((.Tuple [c, .Call (.Attribute (.Name y py) "pop" ay) [e] [] cy] tk tp) :: []) X.env)).all (fun x => !x.1) && (backToKw cpos (keywordEach [] X.env)).all (fun x => x.1.isSome) && decide (((.Tuple [c, .Call (.Attribute (.Name y py) "pop" ay) [e] [] cy] tk tp : Expr) :: []).length + ([] : List Keyword).length + (if ([] : List Keyword).isEmpty then 0 else 1) < 30)) = true := by rfl)
    (hline : (apos.endLine == cpos.line) = true := by rfl) (hs : starEach ((.Tuple [c, .Call (.Attribute (.Name y py) "pop" ay) [e] [] cy] tk tp) :: []) X.env = (false, eval (.Tuple [c, .Call (.Attribute (.Name y py) "pop" ay) [e] [] cy] tk tp) X.env) :: starEach [] X.env := by rfl) (hplain : (backTo cpos (starEach [] X.env)).any (·.1) = false := by rfl)
    (hsw : swapsWith (.Call (.Attribute (.Name x p) "append" apos) [.Tuple [c, .Call (.Attribute (.Name y py) "pop" ay) [e] [] cy] tk tp] [] cpos) none pos.line X.env = pure false := by rfl) :
    DS X wd W (.Expr (.Call (.Attribute (.Name x p) "append" apos) [.Tuple [c, .Call (.Attribute (.Name y py) "pop" ay) [e] [] cy] tk tp] [] cpos) pos) (sAppPop i j wc w) :=
  ⟨ps_imp (ps_expr (pe_bm PySem.F.plainAttrs_list PySem.F.slot_list_append PySem.F.type_list_append mt_append (pe_var hN hv hd hcd) (pa_cons (pe_tup (pa_cons hc.pe (pa_cons (pe_bm PySem.F.plainAttrs_list PySem.F.slot_list_pop PySem.F.type_list_pop mt_popAt (pe_var hNj hvy hdy hcdy) (pa_cons he.pe pa_nil hsy) hbasey hfewy hliney hsy hplainy) pa_nil s2) s1)) pa_nil hs) hbase hfew hline hs hplain) hsw) fun D σ H q => by
  obtain ⟨O, G, ρ, π, R, p⟩ := q
  unfold sAppPop at p
  split at p
  · next xs ys hρ hρj =>
    obtain ⟨a, vs, h1, h2, h3, h4⟩ := R.slot i _ hρ
    obtain ⟨b, us, g1, g2, g3, g4⟩ := R.slot j _ hρj
    refine ⟨_, h1, .inl ⟨rfl, _, .inl (.inl h3)⟩, O, G, ρ, π, R, Post.imp (PostS.expr p) fun cv H' z => ?_⟩
    obtain ⟨O', G', π', cd, R', S', r', p'⟩ := z
    have g3' := S'.fr _ _ g3 (by rw [g2]; exact fun z => by cases z) (fun _ z => by cases z)
    have h3' := S'.fr _ _ h3 (by rw [h2]; exact fun z => by cases z) (fun _ z => by cases z)
    have o' := S'.oo _ _ h2
    have q' := S'.oo _ _ g2
    refine ⟨_, g1, .inl ⟨rfl, _, .inl (.inl g3')⟩, O', G', ρ, π', R', Post.imp (PostS.expr p') fun kv H2 z => ?_⟩
    obtain ⟨O2, G2, π2, kd, R2, S2, r2, p2⟩ := z
    have g3'' := S2.fr _ _ g3' (by rw [q']; exact fun z => by cases z) (fun _ z => by cases z)
    have h3'' := S2.fr _ _ h3' (by rw [o']; exact fun z => by cases z) (fun _ z => by cases z)
    have o2 := S2.oo _ _ o'
    have q2 := S2.oo _ _ q'
    have p3 : PostS X wd W G2 D (match popF ys kd with
      | some (d, zs) => if xs.length < most then .nx ((ρ.set j (some (.lst zs))).set i (some (.lst (xs ++ [.tup [cd, d]])))) π2 else .bad
      | none => .bad) := p2
    clear p2
    split at p3
    · next d zs ey =>
      unfold popF at ey
      split at ey
      · next k =>
        split at ey
        · next ck =>
          obtain ⟨c1, c2⟩ := inR_of ck
          obtain ⟨n, e1, e2⟩ := Option.bind_eq_some_iff.mp ey
          obtain ⟨d', e3, e4⟩ := Option.map_eq_some_iff.mp e2
          cases e4
          split at p3
          · next cl =>
            have g4' := (g4.mono S'.sg).mono S2.sg
            have h4' := (h4.mono S'.sg).mono S2.sg
            obtain ⟨v, e5, e6⟩ := g4'.get e3
            have r2 : Dp (md X) G2 kv (.int k) := r2
            have ne : a ≠ b := fun z => by
              subst z
              rw [h2] at g2
              cases g2
              exact hij rfl
            refine ⟨b, us, k, n, v, rfl, by rw [r2.i_int], g3'', by omega, by omega, (ixN_seq (by rw [g4.length]; exact e1)).1, e5, ?_⟩
            have R3 := R2.write hρj g1 q2 g3'' (g4'.eraseIdx n)
            refine ⟨by show 2 ≤ sizeLine; decide, fun t n3 => ?_⟩
            obtain ⟨R4, S4, e7⟩ := R3.allocG (o := .tup [cv, v]) n3 (fun ps z => by cases z)
            have h5 : upd H2 b (.lst (us.eraseIdx n)) a = some (.lst vs) := by rw [upd_ne ne]; exact h3''
            have h6 : upd (upd H2 b (.lst (us.eraseIdx n))) t (.tup [cv, v]) a = some (.lst vs) := by
              rw [upd_ne (fun z => by rw [z, n3] at h5; cases h5)]
              exact h5
            refine ⟨a, vs, .ref t, rfl, rfl, h6, most_lt (by rw [h4.length]; exact cl), ?_⟩
            have hρ' : (ρ.set j (some (.lst (ys.eraseIdx n))))[i]? = some (some (.lst xs)) := by
              rw [List.getElem?_set_ne (fun z => hij z.symm)]
              exact hρ
            have dt : Dp (md X) (upd G2 t (.tup [cv, v])) (.ref t) (.tup [cd, d]) := .tup (.inl e7) (.cons ((Dp.mono S2.sg r').mono S4.sg) (.one (Dp.mono S4.sg e6)))
            exact p3.nx (R4.write hρ' h1 o2 h6 ((h4'.mono S4.sg).append (.one dt))) S4.sg
          · exact p3.elim
        · cases ey
      · cases ey
    · exact p3.elim
  · exact p.elim⟩
@[simp] theorem s_appPop (i j : Nat) (wc w : Ev → EM D) {ρ : Ev} {π : Rt} {xs ys : List D} (h1 : ρ[i]? = some (some (.lst xs))) (h2 : ρ[j]? = some (some (.lst ys))) : sAppPop i j wc w ρ π = SO.of ρ (wc ρ π) fun c π1 => SO.of ρ (w ρ π1) fun k π2 => (match popF ys k with
    | some (d, zs) => if xs.length < most then .nx ((ρ.set j (some (.lst zs))).set i (some (.lst (xs ++ [.tup [c, d]])))) π2 else .bad
    | none => .bad) := by
  unfold sAppPop
  rw [h1, h2]
end
end DL

/-! sorted of lists and tuples of any data that compare with one another (no object, no empty tuple beside a full one). -/
namespace DL
open PySem PySem.Spec PyProof.Rows L2
section
variable {X : Cx} {wd : Wd} {W : WS}
def rSrtX (K : PySem.W.Frag) : List V → Hp → VK → Prop := fun vs H Q => ∃ (a : Addr) (T : List (V × PyData)), vs = [V.ref a] ∧ (SqL K H a (T.map Prod.fst) ∨ SqT K H a (T.map Prod.fst)) ∧ (∀ b ∈ T, L2.Dp K H b.1 b.2) ∧ PySem.W.AllAlike (T.map Prod.snd) ∧ PySem.W.Sortable (T.map Prod.snd) ∧ (∀ b ∈ T, b.2.depth ≤ 8) ∧ T.length ≤ sizeLine ∧
  ∀ p, H p = none → Q (.ref p) (upd H p (.lst ((T.mergeSort (PySem.W.dataLe false Prod.snd)).map Prod.fst)))
theorem vals_eachX {R : V × PyData → Prop} : ∀ {T : List (V × PyData)} {us : List Value}, Vals (T.map Prod.fst) us → PySem.W.EachIs (fun u b => RelV b.1 u ∧ b ∈ T) us T
  | [], _, h => by
    cases h
    exact .nil
  | b :: r, _, h => by
    cases h with
    | cons h1 h2 => exact .cons ⟨h1, List.mem_cons_self⟩ ((vals_eachX (R := R) h2).mono fun u b q => ⟨q.1, List.mem_cons_of_mem _ q.2⟩)
theorem cr_srtX (hu : X.A.units + 65 < cLine) : CallR X (.builtin "sorted") (rSrtX X.K) := by
  intro pins s σ H vs us Q I r h
  obtain ⟨a, T, rfl, hs, hd, hal2, hk2, hd8, hL, q⟩ := h
  obtain ⟨u, rfl, ru⟩ := vals1 r
  obtain rfl : u = Value.ref a := ru
  have hu2 : ∀ b, b ∈ T → X.A.units + 2 + (Prod.snd b).depth < cLine := fun b hb => by
    have := hd8 b hb
    omega
  have fin : ∀ (its : List Value), Vals (T.map Prod.fst) its → ∀ out, out.length = T.length → PySem.W.EachIs (fun u (b : V × PyData) => RelV b.1 u) out (T.mergeSort (PySem.W.dataLe false Prod.snd)) → EP X pins σ Q (.ref (s.heap.objs.size + 1)) { s with heap := sortedAll s.heap its (List.toArray out) } := fun its rv out ho eo => by
    obtain ⟨n, hn⟩ := sortedAll_at s.heap its out.toArray
    refine ⟨.ref (s.heap.objs.size + 1), upd H (s.heap.objs.size + 1) (.lst ((T.mergeSort (PySem.W.dataLe false Prod.snd)).map Prod.fst)), I.laid (t' := s.toks) (fun b o e => sortedAll_old e) (Nat.le_succ _) ⟨?_, out, n, each_vals eo, hn⟩, rfl, q _ (I.hok.fresh (Nat.le_succ _))⟩
    rw [List.length_map, List.length_mergeSort]
    exact hL
  rcases hs with hs | hs
  · obtain ⟨its, rv, hl, hz⟩ := I.list hs
    have ee := vals_eachX (R := fun _ => True) rv
    exact PySem.W.sorted_data (R := fun u (b : V × PyData) => RelV b.1 u) (enc := Prod.snd) hl.isList (ee.mono fun u b z => z.1) (ee.mono fun u b z => L2.Dp.reads I b.2 b.1 u (hd b z.2) z.1) hal2 hk2 hL hu2 (fin its rv)
  · obtain ⟨its, rv, hl, hz⟩ := I.tuple hs
    have ee := vals_eachX (R := fun _ => True) rv
    exact sorted_dataT (R := fun u (b : V × PyData) => RelV b.1 u) (enc := Prod.snd) hl (ee.mono fun u b z => z.1) (ee.mono fun u b z => L2.Dp.reads I b.2 b.1 u (hd b z.2) z.1) hal2 hk2 hL hu2 (fin its rv)
def D.pyD (d : D) : PyData := (D.py d).getD .none
def fullT : PyData → Bool
  | .tuple (_ :: _) => true
  | _ => false
def noT : PyData → Bool
  | .tuple _ => false
  | .none => false
  | _ => true
/-- can be sorted -/
def sortOk (xs : List D) : Bool := decide (xs.length ≤ most) && xs.all (fun d => (D.py d).isSome) && xs.all (fun d => decide (d.pyD.depth ≤ 8)) && xs.all (fun a => xs.all fun b => PySem.W.alike a.pyD b.pyD) && (xs.all (fun d => fullT d.pyD) || xs.all fun d => noT d.pyD)
def leX (a b : D) : Bool := !PySem.W.dataLt b.pyD a.pyD
def sortXO (xs : List D) : Option (List D) := if sortOk xs then some (xs.mergeSort leX) else none
def sortXM : List D → EM (List D)
  | [.lst xs] => ofO (sortXO xs)
  | [.tup xs] => ofO (sortXO xs)
  | _ => EM.bad
theorem zipX {M : Md} {G H : Hp} (e : Same G H) : ∀ {vs : List V} {xs : List D}, DpAll M G vs xs → (∀ d ∈ xs, (D.py d).isSome = true) → (vs.zip (xs.map D.pyD)).map Prod.fst = vs ∧ (vs.zip (xs.map D.pyD)).map Prod.snd = xs.map D.pyD ∧ ∀ b ∈ vs.zip (xs.map D.pyD), L2.Dp M.K H b.1 b.2
  | _, [], h, _ => by
    cases h
    exact ⟨rfl, rfl, fun b z => absurd z List.not_mem_nil⟩
  | _, d :: r, h, hs => by
    cases h with
    | cons h1 h2 =>
      obtain ⟨e1, e2, e3⟩ := zipX e h2 fun z hz => hs z (List.mem_cons_of_mem _ hz)
      refine ⟨by rw [List.map_cons, List.zip_cons_cons, List.map_cons, e1], by rw [List.map_cons, List.zip_cons_cons, List.map_cons, e2], fun b hb => ?_⟩
      rw [List.map_cons, List.zip_cons_cons] at hb
      rcases List.mem_cons.mp hb with rfl | hb
      · obtain ⟨p, hp⟩ := Option.isSome_iff_exists.mp (hs d List.mem_cons_self)
        have : d.pyD = p := by unfold D.pyD; rw [hp]; rfl
        show L2.Dp M.K H _ d.pyD
        rw [this]
        exact h1.py e hp
      · exact e3 b hb
theorem srtX_dp {M : Md} {G : Hp} {vs : List V} {xs : List D} (h : DpAll M G vs xs) : DpAll M G (((vs.zip (xs.map D.pyD)).mergeSort (PySem.W.dataLe false Prod.snd)).map Prod.fst) (xs.mergeSort leX) := by
  have key : ∀ (T : List (V × D)), (∀ b ∈ T, Dp M G b.1 b.2) → DpAll M G (T.map Prod.fst) (T.map Prod.snd) := by
    intro T
    induction T with
    | nil => exact fun _ => .nil
    | cons b r ih => exact fun z => .cons (z b List.mem_cons_self) (ih fun y hy => z y (List.mem_cons_of_mem _ hy))
  have z : ∀ {vs : List V} {xs : List D}, DpAll M G vs xs → (vs.zip xs).map Prod.fst = vs ∧ (vs.zip xs).map Prod.snd = xs ∧ ∀ b ∈ vs.zip xs, Dp M G b.1 b.2 := by
    intro vs xs h
    induction xs generalizing vs with
    | nil => cases h; exact ⟨rfl, rfl, fun b z => absurd z List.not_mem_nil⟩
    | cons d r ih =>
      cases h with
      | cons h1 h2 =>
        obtain ⟨e1, e2, e3⟩ := ih h2
        refine ⟨by rw [List.zip_cons_cons, List.map_cons, e1], by rw [List.zip_cons_cons, List.map_cons, e2], fun b hb => ?_⟩
        rw [List.zip_cons_cons] at hb
        rcases List.mem_cons.mp hb with rfl | hb
        · exact h1
        · exact e3 b hb
  obtain ⟨e1, e2, e3⟩ := z h
  have q := key ((vs.zip xs).mergeSort fun a b => leX a.2 b.2) fun b hb => e3 b (List.mem_mergeSort.mp hb)
  have e4 : ((vs.zip xs).mergeSort fun a b => leX a.2 b.2).map Prod.snd = xs.mergeSort leX := by
    rw [List.map_mergeSort (s := leX) (f := Prod.snd) fun a _ b _ => rfl, e2]
  have e5 : vs.zip (xs.map D.pyD) = (vs.zip xs).map fun b => (b.1, b.2.pyD) := by
    rw [List.zip_map_right]
    rfl
  have e6 : ((vs.zip xs).mergeSort fun a b => leX a.2 b.2).map (fun b => (b.1, b.2.pyD)) = (vs.zip (xs.map D.pyD)).mergeSort (PySem.W.dataLe false Prod.snd) := by
    rw [e5]
    exact List.map_mergeSort fun a _ b _ => rfl
  rw [e4] at q
  rw [← e6, List.map_map]
  exact q
theorem b_sortedX (hm : X.mg "sorted" = none) (hu : X.A.units + 65 < cLine) : BltF X wd W "sorted" sortXM := ⟨hm, by decide, by decide, .inl ⟨_, _, by decide +kernel, cr_srtX hu, fun O G σ H ρ π Q vs ds R r p => by
  have fin : ∀ (xs : List D) (a : Addr) (ws : List V), (SqL X.K H a ws ∨ SqT X.K H a ws) → DpAll (md X) G ws xs → Post X wd W (rF X wd) O G σ H ρ Q (ofO (sortXO xs) π) → rSrtX X.K [V.ref a] H Q := fun xs a ws hs q2 p => by
    obtain ⟨d, q, p⟩ := post_ofO p
    unfold sortXO at q
    split at q
    · next c =>
      cases q
      unfold sortOk at c
      simp only [Bool.and_eq_true, Bool.or_eq_true, decide_eq_true_eq, List.all_eq_true] at c
      obtain ⟨⟨⟨⟨c1, c2⟩, c3⟩, c4⟩, c5⟩ := c
      obtain ⟨e1, e2, e3⟩ := zipX R.sub q2 c2
      refine ⟨a, ws.zip (xs.map D.pyD), rfl, by rw [e1]; exact hs, e3, ?_, ?_, fun b hb => ?_, ?_, fun c n => Post.giveF p R (srtX_dp q2) n⟩
      · rw [e2]
        intro d hd d' hd'
        obtain ⟨x, hx, rfl⟩ := List.mem_map.mp hd
        obtain ⟨y, hy, rfl⟩ := List.mem_map.mp hd'
        exact c4 x hx y hy
      · rw [e2]
        rcases c5 with c5 | c5
        · refine .inl fun d hd => ?_
          obtain ⟨x, hx, rfl⟩ := List.mem_map.mp hd
          have := c5 x hx
          unfold fullT at this
          split at this
          · next e => exact ⟨_, _, e⟩
          · cases this
        · refine .inr fun d hd => ?_
          obtain ⟨x, hx, rfl⟩ := List.mem_map.mp hd
          have := c5 x hx
          unfold noT at this
          split at this
          · cases this
          · cases this
          · next h1 h2 => exact ⟨h2, h1⟩
      · have hb2 : b.2 ∈ (ws.zip (xs.map D.pyD)).map Prod.snd := List.mem_map_of_mem hb
        rw [e2] at hb2
        obtain ⟨x, hx, e⟩ := List.mem_map.mp hb2
        rw [← e]
        exact c3 x hx
      · rw [List.length_zip, List.length_map, q2.length]
        have := most_le c1
        omega
    · cases q
  unfold sortXM at p
  split at p
  · next xs =>
    obtain ⟨v, rfl, h⟩ := r.one
    obtain ⟨a, ws, rfl, q1, q2⟩ := h.i_lst R
    exact fin xs a ws (.inl (SqL.of q1)) q2 p
  · next xs =>
    obtain ⟨v, rfl, h⟩ := r.one
    obtain ⟨a, ws, rfl, q1, q2, q3⟩ := h.i_tup R
    exact fin xs a ws (.inr q1) q2 p
  · exact (post_bad p).elim⟩⟩
/-- what is sorted already, told by another row -/
theorem sorted_unique {α : Type} {le : α → α → Bool} (trans : ∀ a b c, le a b = true → le b c = true → le a c = true) (total : ∀ a b, (le a b || le b a) = true) {xs ys : List α} (hp : ys.Perm xs) (hs : ys.Pairwise fun a b => le b a = false) : xs.mergeSort le = ys := by
  have p1 : (xs.mergeSort le).Perm ys := (List.mergeSort_perm xs le).trans hp.symm
  have s1 : (xs.mergeSort le).Pairwise fun a b => le a b = true := List.pairwise_mergeSort trans total xs
  have s2 : ys.Pairwise fun a b => le a b = true := hs.imp fun {a b} h => by
    have := total a b
    rw [h, Bool.or_false] at this
    exact this
  have anti : ∀ (l1 l2 : List α), l1.Perm l2 → l1.Pairwise (fun a b => le a b = true) → l2.Pairwise (fun a b => le b a = false) → l1 = l2 := by
    intro l1
    induction l1 with
    | nil => exact fun l2 p _ _ => (List.nil_perm.mp p).symm
    | cons a r ih =>
      intro l2 p h1 h2
      obtain ⟨a1, a2⟩ := List.pairwise_cons.mp h1
      cases l2 with
      | nil => exact absurd p.length_eq (by simp)
      | cons b t =>
        obtain ⟨b1, b2⟩ := List.pairwise_cons.mp h2
        have hb : b ∈ a :: r := p.mem_iff.mpr List.mem_cons_self
        have ha : a ∈ b :: t := p.mem_iff.mp List.mem_cons_self
        have e : a = b := by
          rcases List.mem_cons.mp ha with e | ha
          · exact e
          · rcases List.mem_cons.mp hb with e | hb
            · exact e.symm
            · have q1 := a1 b hb
              have q2 := b1 a ha
              rw [q1] at q2
              cases q2
        subst e
        rw [ih t (List.Perm.cons_inv p) a2 b2]
  exact anti _ _ p1 s1 hs
theorem leX_trans (a b c : D) (h1 : leX a b = true) (h2 : leX b c = true) : leX a c = true := by
  unfold leX at *
  rw [Bool.not_eq_true'] at *
  cases h : PySem.W.dataLt c.pyD a.pyD with
  | false => rfl
  | true =>
    rcases PyProof.Rows.lex_negTrans (O := itemOrd) _ (PySem.W.keyToks b.pyD) _ h with q | q
    · exact absurd (h2.symm.trans q) (by decide)
    · exact absurd (h1.symm.trans q) (by decide)
theorem leX_total (a b : D) : (leX a b || leX b a) = true := by
  unfold leX
  cases h1 : PySem.W.dataLt b.pyD a.pyD with
  | false => rfl
  | true =>
    cases h2 : PySem.W.dataLt a.pyD b.pyD with
    | false => rfl
    | true =>
      have := PyProof.Rows.lex_trans (O := itemOrd) _ _ _ h1 h2
      rw [PyProof.Rows.lex_irrefl] at this
      cases this
theorem sortXM_ok {xs ys : List D} (h : sortOk xs = true) (hp : ys.Perm xs) (hs : ys.Pairwise fun a b => leX b a = false) (π : Rt) : sortXM [.lst xs] π = .ok ys π ∧ sortXM [.tup xs] π = .ok ys π := by
  have e : sortXO xs = some ys := by
    unfold sortXO
    rw [if_pos h, sorted_unique leX_trans leX_total hp hs]
  exact ⟨by show ofO (sortXO xs) π = _; rw [e]; rfl, by show ofO (sortXO xs) π = _; rw [e]; rfl⟩
end
end DL

namespace G_k12
open PySem PySem.Spec PyProof.Rows L2 LamX DL
def top (i : Nat) : Stmt := PySem.Challenge.pw_plotwardens_k12_cores_of_programs.main.body.getD i (.Pass ⟨0, 0, 0, 0⟩)
def inClass (s : Stmt) (i : Nat) : Stmt := match s with
  | .ClassDef _ _ _ b _ _ _ _ _ _ _ => b.getD i (.Pass ⟨0, 0, 0, 0⟩)
  | _ => .Pass ⟨0, 0, 0, 0⟩
def tab_PlotError : Tab := [("PlotError", true), ("BadNumber", true), ("BadRule", true), ("NoPrograms", true), ("NotThere", true)]
def tab_BadNumber : Tab := [("PlotError", false), ("BadNumber", true), ("BadRule", false), ("NoPrograms", false), ("NotThere", false)]
def tab_BadRule : Tab := [("PlotError", false), ("BadNumber", false), ("BadRule", true), ("NoPrograms", false), ("NotThere", false)]
def tab_NoPrograms : Tab := [("PlotError", false), ("BadNumber", false), ("BadRule", false), ("NoPrograms", true), ("NotThere", false)]
def tab_NotThere : Tab := [("PlotError", false), ("BadNumber", false), ("BadRule", false), ("NoPrograms", false), ("NotThere", true)]
def c_MOST_FIELD : D := (.int 24)
def c_RULES : D := (.tup [(.str "first"), (.str "best"), (.str "worst"), (.str "last"), (.str "even")])
def c_MOST_STEPS : D := (.int 8)
structure EX (P : Program) (w : World) (K : PySem.W.Frag) (mg : Str → Option Value) (base : Heap) : Prop where
  nil : True
  i_BadNumber : ExI P w K mg base "BadNumber" 1 ["value"]
  m_BadNumber : mg "BadNumber" = some (.ref (He.ga K "BadNumber"))
  i_BadRule : ExI P w K mg base "BadRule" 1 ["value"]
  m_BadRule : mg "BadRule" = some (.ref (He.ga K "BadRule"))
  n_NoPrograms : ExN K mg "NoPrograms"
  m_NoPrograms : mg "NoPrograms" = some (.ref (He.ga K "NoPrograms"))
  n_NotThere : ExN K mg "NotThere"
  m_NotThere : mg "NotThere" = some (.ref (He.ga K "NotThere"))
  h_MOST_FIELD : Gc K mg "MOST_FIELD" c_MOST_FIELD
  h_RULES : Gc K mg "RULES" c_RULES
  h_MOST_STEPS : Gc K mg "MOST_STEPS" c_MOST_STEPS
section
variable {P : Program} {w : World} {K : PySem.W.Frag} {mg : Str → Option Value} {base : Heap} {a : Addr} {cdv : Value} {A : Around} {outer : List Env} {sh : Shared} {H : Hp} {E : XK} {wd : Wd} {k : Nat}
/-! _law_pot -/
def st__law_pot : Stmt := top 38
def N__law_pot : List Str := ["script", "cell"]
def W__law_pot : SM :=
  (sRetF (eLst (aCons (eFrz (eComp (eItems (eSl (eVar 0) oNone (oSome (eC (.int 63))))) (gN 1) tYes_ (eCall absM (aCons (eVar 1) aNil)) [1])) (aCons (eC (.int 0)) (aCons (eC (.int 20011)) (aCons (eC (.int 0)) aNil))))))
theorem S__law_pot : FnScope N__law_pot ["script"] (defScope st__law_pot) := ⟨rfl, rfl, rfl, by decide +kernel, rfl, by decide +kernel, by decide +kernel⟩
theorem B__law_pot (B : Bl mg) (Ex : EX P w K mg base) (hr : Room (k + 3) (A.deeper (envOfC "_law_pot" (defScope st__law_pot) sh.heap.objs.size a cdv))) :
    DSs (cxOf (L2.CX P w) P w K mg base N__law_pot "_law_pot" (defScope st__law_pot) a cdv A outer sh H E) wd (fun _ => E) (defBody st__law_pot) (W__law_pot) := by
  have nd : (N__law_pot).Nodup := S__law_pot.nd
  have hu := Room.u65 hr
  unfold W__law_pot
  exact (dss_one (ds_retF (df_lst (da_cons (DF.de (df_comp (own := [("cell", 1)]) rfl nd (di_seq (DE.db (de_sl (DE.db (de_var 0)) do_none (do_some (DE.db de_int))))) (blkOk_by (by kernel_rfl)) (by decide) (fun _ _ _ _ _ => (dg_name 1 nd)) (fun _ _ _ _ _ => dts_nil) (fun _ _ _ _ _ => (de_blt (b_abs B.abs) rfl (dbs_cons (DE.db (de_var 1)) dbs_nil))))) (da_cons de_int (da_cons de_int (da_cons de_int da_nil)))))))
theorem G__law_pot {fd : FuncData} (Fu : Fun K "_law_pot" "_law_pot" st__law_pot a fd) (hm : mg "_law_pot" = some (.ref a)) (hb : L2.Binds K fd ["script"] []) (B : Bl mg) (Ex : EX P w K mg base) : FnG P w K mg base "_law_pot" (k + 4) none 1 (runB (W__law_pot) none 1) :=
  fnG_mk Fu hm hb S__law_pot rfl fun _ _ _ _ _ _ _ hr => B__law_pot B Ex hr
/-! _law_top -/
def st__law_top : Stmt := top 46
def N__law_top : List Str := ["laid", "start", "length"]
def W__law_top : SM :=
  (sRet (eCall maxM (aCons (eBin addM (eFrz (eLst (aCons (eC (.int 0)) aNil))) (eFrz (eComp (eItems (eVar 0)) (gT 2 (gCons_ (gN 1) (gCons_ (gN 2) gNil_))) tYes_ (eBin addM (eVar 1) (eVar 2)) [1, 2]))) aNil)))
theorem S__law_top : FnScope N__law_top ["laid"] (defScope st__law_top) := ⟨rfl, rfl, rfl, by decide +kernel, rfl, by decide +kernel, by decide +kernel⟩
theorem B__law_top (B : Bl mg) (Ex : EX P w K mg base) (hr : Room (k + 3) (A.deeper (envOfC "_law_top" (defScope st__law_top) sh.heap.objs.size a cdv))) :
    DSs (cxOf (L2.CX P w) P w K mg base N__law_top "_law_top" (defScope st__law_top) a cdv A outer sh H E) wd (fun _ => E) (defBody st__law_top) (W__law_top) := by
  have nd : (N__law_top).Nodup := S__law_top.nd
  have hu := Room.u65 hr
  unfold W__law_top
  exact (dss_one (ds_ret (de_blt (b_max B.max rfl) rfl (dbs_cons (DE.db (de_add (DE.db (DF.de (df_lst (da_cons de_int da_nil)))) (DE.db (DF.de (df_comp (own := [("start", 1), ("length", 2)]) rfl nd (di_seq (DE.db (de_var 0))) (blkOk_by (by kernel_rfl)) (by decide) (fun _ _ _ _ _ => (dg_tup rfl (dgs_cons (dg_name 1 nd) (dgs_cons (dg_name 2 nd) dgs_nil)))) (fun _ _ _ _ _ => dts_nil) (fun _ _ _ _ _ => (de_add (DE.db (de_var 1)) (DE.db (de_var 2))))))))) dbs_nil))))
theorem G__law_top {fd : FuncData} (Fu : Fun K "_law_top" "_law_top" st__law_top a fd) (hm : mg "_law_top" = some (.ref a)) (hb : L2.Binds K fd ["laid"] []) (B : Bl mg) (Ex : EX P w K mg base) : FnG P w K mg base "_law_top" (k + 4) none 1 (runB (W__law_top) none 2) :=
  fnG_mk Fu hm hb S__law_top rfl fun _ _ _ _ _ _ _ hr => B__law_top B Ex hr
/-! _law_place -/
def st__law_place : Stmt := top 45
def N__law_place : List Str := ["rule", "laid", "length", "start", "many", "high", "taken", "k", "fits", "own", "step", "low", "wide"]
def W__law_place : SM :=
  (sSeq (sSet 5 (eCall maxM (aCons (eBin addM (eFrz (eLst (aCons (eC (.int 0)) aNil))) (eFrz (eComp (eItems (eVar 1)) (gT 2 (gCons_ (gN 3) (gCons_ (gN 4) gNil_))) tYes_ (eBin addM (eVar 3) (eVar 4)) [3, 4]))) aNil))) (sSeq (sSetF 6 (eBinF mulF (eFrz (eLst (aCons (eC (.int 0)) aNil))) (eBin addM (eVar 5) (eC (.int 80))))) (sSeq (sFor (eItems (eVar 1)) (gT 2 (gCons_ (gN 3) (gCons_ (gN 4) gNil_))) (sFor (eCall rng2M (aCons (eVar 3) (aCons (eBin addM (eVar 3) (eVar 4)) aNil))) (gN 7) (sSetIx 6 (eC (.int 1)) (eVar 7)))) (sSeq (sSet 8 (eFrz (eComp (eCall rng1M (aCons (eBin addM (eVar 5) (eC (.int 40))) aNil)) (gN 7) (eT (eBin eqM (eCall sumM (aCons (eSl (eVarB 6) (oSome (eVar 7)) (oSome (eBin addM (eVar 7) (eVar 2)))) aNil)) (eC (.int 0)))) (eVar 7) [7]))) (sSeq (sIf (eT (eBin eqM (eVar 0) (eC (.str "even")))) (sSeq (sSet 10 (eBin ixM (eFrz (eComp (eItems (eFrz (eLst (aCons (eC (.int 1)) (aCons (eC (.int 2)) (aCons (eC (.int 4)) (aCons (eC (.int 8)) (aCons (eC (.int 16)) (aCons (eC (.int 32)) aNil))))))))) (gN 9) (eT (eBin geM (eVar 9) (eVar 2))) (eVar 9) [9])) (eC (.int 0)))) (sRet (eBin ixM (eFrz (eComp (eItems (eVar 8)) (gN 7) (eT (eBin eqM (eBin modM (eVar 7) (eVar 10)) (eC (.int 0)))) (eVar 7) [7])) (eC (.int 0))))) sNop) (sSeq (sSet 11 (eFrz (eComp (eItems (eVar 8)) (gN 7) (eT (eBin leM (eBin addM (eVar 7) (eVar 2)) (eVar 5))) (eVar 7) [7]))) (sSeq (sIf (eT (eBin eqM (eVar 11) (eFrz (eLst aNil)))) (sRet (eVar 5)) sNop) (sSeq (sIf (eT (eBin eqM (eVar 0) (eC (.str "first")))) (sRet (eBin ixM (eVar 11) (eC (.int 0)))) sNop) (sSeq (sIf (eT (eBin eqM (eVar 0) (eC (.str "last")))) (sRet (eBin ixM (eVar 11) (eUn negM (eC (.int 1))))) sNop) (sSeq (sSetF 12 (eLst aNil)) (sSeq (sFor (eItems (eVar 11)) (gN 7) (sIf (tOr_ (eT (eBin eqM (eVar 7) (eC (.int 0)))) (eT (eBin eqM (eBin ixM (eVarB 6) (eBin subM (eVar 7) (eC (.int 1)))) (eC (.int 1))))) (sMut 12 (eTup (aCons (eIdx (eSl (eVarB 6) (oSome (eVar 7)) oNone) (eC (.int 1))) (aCons (eVar 7) aNil))) apF) sNop)) (sSeq (sIf (eT (eBin eqM (eVar 0) (eC (.str "best")))) (sRet (eBin ixM (eBin ixM (eFrz (eCall sortM (aCons (eVarB 12) aNil))) (eC (.int 0))) (eC (.int 1)))) sNop) (sRet (eBin ixM (eFrz (eComp (eItems (eVarB 12)) (gT 2 (gCons_ (gN 4) (gCons_ (gN 7) gNil_))) (eT (eBin eqM (eVar 4) (eBin ixM (eCall maxXM (aCons (eVarB 12) aNil)) (eC (.int 0))))) (eVar 7) [4, 7])) (eC (.int 0))))))))))))))))
theorem S__law_place : FnScope N__law_place ["rule", "laid", "length"] (defScope st__law_place) := ⟨rfl, rfl, rfl, by decide +kernel, rfl, by decide +kernel, by decide +kernel⟩
theorem B__law_place (B : Bl mg) (Ex : EX P w K mg base) (hr : Room (k + 3) (A.deeper (envOfC "_law_place" (defScope st__law_place) sh.heap.objs.size a cdv))) :
    DSs (cxOf (L2.CX P w) P w K mg base N__law_place "_law_place" (defScope st__law_place) a cdv A outer sh H E) wd (fun _ => E) (defBody st__law_place) (W__law_place) := by
  have nd : (N__law_place).Nodup := S__law_place.nd
  have hu := Room.u65 hr
  unfold W__law_place
  exact (dss_cons (ds_set 5 nd (de_blt (b_max B.max rfl) rfl (dbs_cons (DE.db (de_add (DE.db (DF.de (df_lst (da_cons de_int da_nil)))) (DE.db (DF.de (df_comp (own := [("start", 3), ("many", 4)]) rfl nd (di_seq (DE.db (de_var 1))) (blkOk_by (by kernel_rfl)) (by decide) (fun _ _ _ _ _ => (dg_tup rfl (dgs_cons (dg_name 3 nd) (dgs_cons (dg_name 4 nd) dgs_nil)))) (fun _ _ _ _ _ => dts_nil) (fun _ _ _ _ _ => (de_add (DE.db (de_var 3)) (DE.db (de_var 4))))))))) dbs_nil))) (dss_cons (ds_setF 6 nd (df_mul (DE.db (DF.de (df_lst (da_cons de_int da_nil)))) (DE.db (de_add (DE.db (de_var 5)) (DE.db de_int))))) (dss_cons (ds_for (poF) rfl (dis_seq (de_var 1)) (dg_tup rfl (dgs_cons (dg_name 3 nd) (dgs_cons (dg_name 4 nd) dgs_nil))) (dss_one (ds_for (poF) rfl (dis_range2 B.range rfl (da_cons (de_var 3) (da_cons (de_add (DE.db (de_var 3)) (DE.db (de_var 4))) da_nil))) (dg_name 7 nd) (dss_one (ds_setIx 6 de_int (DE.db (de_var 7))))))) (dss_cons (ds_setC 8 (own := [("k", 7)]) rfl nd (DIS.di (dis_range1 B.range rfl (da_cons (de_add (DE.db (de_var 5)) (DE.db de_int)) da_nil))) (blkOk_by (by kernel_rfl)) (by decide) (fun _ _ _ _ _ => (dg_name 7 nd)) (fun _ _ _ _ _ => (dts_one (dt_c (c_eq hu) (DE.db (de_blt (b_sum B.sum rfl) rfl (dbs_cons (DE.db (de_sl (db_var 6) (do_some (DE.db (de_var 7))) (do_some (DE.db (de_add (DE.db (de_var 7)) (DE.db (de_var 2))))))) dbs_nil))) (DE.db de_int)))) (fun _ _ _ _ _ => (de_var 7))) (dss_cons (ds_if (dt_c (c_eq hu) (DE.db (de_var 0)) (DE.db de_str)) (dss_cons (ds_set 10 nd (de_ix (DE.db (DF.de (df_comp (own := [("own", 9)]) rfl nd (di_seq (DE.db (DF.de (df_lst (da_cons de_int (da_cons de_int (da_cons de_int (da_cons de_int (da_cons de_int (da_cons de_int da_nil)))))))))) (blkOk_by (by kernel_rfl)) (by decide) (fun _ _ _ _ _ => (dg_name 9 nd)) (fun _ _ _ _ _ => (dts_one (dt_c c_ge (DE.db (de_var 9)) (DE.db (de_var 2))))) (fun _ _ _ _ _ => (de_var 9))))) (DE.db de_int))) (dss_one (ds_ret (de_ix (DE.db (DF.de (df_comp (own := [("k", 7)]) rfl nd (di_seq (DE.db (de_var 8))) (blkOk_by (by kernel_rfl)) (by decide) (fun _ _ _ _ _ => (dg_name 7 nd)) (fun _ _ _ _ _ => (dts_one (dt_c (c_eq hu) (DE.db (de_mod (DE.db (de_var 7)) (DE.db (de_var 10)))) (DE.db de_int)))) (fun _ _ _ _ _ => (de_var 7))))) (DE.db de_int))))) dss_nil) (dss_cons (ds_setC 11 (own := [("k", 7)]) rfl nd (di_seq (DE.db (de_var 8))) (blkOk_by (by kernel_rfl)) (by decide) (fun _ _ _ _ _ => (dg_name 7 nd)) (fun _ _ _ _ _ => (dts_one (dt_c c_le (DE.db (de_add (DE.db (de_var 7)) (DE.db (de_var 2)))) (DE.db (de_var 5))))) (fun _ _ _ _ _ => (de_var 7))) (dss_cons (ds_if (dt_c (c_eq hu) (DE.db (de_var 11)) (DE.db (DF.de (df_lst da_nil)))) (dss_one (ds_ret (de_var 5))) dss_nil) (dss_cons (ds_if (dt_c (c_eq hu) (DE.db (de_var 0)) (DE.db de_str)) (dss_one (ds_ret (de_ix (DE.db (de_var 11)) (DE.db de_int)))) dss_nil) (dss_cons (ds_if (dt_c (c_eq hu) (DE.db (de_var 0)) (DE.db de_str)) (dss_one (ds_ret (de_ix (DE.db (de_var 11)) (DE.db (de_neg de_int))))) dss_nil) (dss_cons (ds_setF 12 nd (df_lst da_nil)) (dss_cons (ds_for (poF) rfl (dis_seq (de_var 11)) (dg_name 7 nd) (dss_one (ds_if (DW.dt (dw_or (dt_c (c_eq hu) (DE.db (de_var 7)) (DE.db de_int)) (dw_or1 (dt_c (c_eq hu) (DE.db (de_ix (db_var 6) (DE.db (de_sub (DE.db (de_var 7)) (DE.db de_int))))) (DE.db de_int))))) (dss_one (ds_append 12 (de_tup (da_cons (de_index hu (DE.db (de_sl (db_var 6) (do_some (DE.db (de_var 7))) do_none)) (DE.db de_int)) (da_cons (de_var 7) da_nil))))) dss_nil))) (dss_cons (ds_if (dt_c (c_eq hu) (DE.db (de_var 0)) (DE.db de_str)) (dss_one (ds_ret (de_ix (DE.db (de_ix (DE.db (DF.de (df_blt (b_sorted B.sorted hu) rfl (dbs_cons (db_var 12) dbs_nil)))) (DE.db de_int))) (DE.db de_int)))) dss_nil) (dss_one (ds_ret (de_ix (DE.db (DF.de (df_comp (own := [("many", 4), ("k", 7)]) rfl nd (di_seq (db_var 12)) (blkOk_by (by kernel_rfl)) (by decide) (fun _ _ _ _ _ => (dg_tup rfl (dgs_cons (dg_name 4 nd) (dgs_cons (dg_name 7 nd) dgs_nil)))) (fun _ _ _ _ _ => (dts_one (dt_c (c_eq hu) (DE.db (de_var 4)) (DE.db (de_ix (DE.db (de_blt (b_maxX B.max rfl hu) rfl (dbs_cons (db_var 12) dbs_nil))) (DE.db de_int)))))) (fun _ _ _ _ _ => (de_var 7))))) (DE.db de_int))))))))))))))))
theorem G__law_place {fd : FuncData} (Fu : Fun K "_law_place" "_law_place" st__law_place a fd) (hm : mg "_law_place" = some (.ref a)) (hb : L2.Binds K fd ["rule", "laid", "length"] []) (B : Bl mg) (Ex : EX P w K mg base) : FnG P w K mg base "_law_place" (k + 4) none 3 (runB (W__law_place) none 10) :=
  fnG_mk Fu hm hb S__law_place rfl fun _ _ _ _ _ _ _ hr => B__law_place B Ex hr
/-! _law_room -/
def st__law_room : Stmt := top 50
def N__law_room : List Str := ["rule", "program", "own", "starts", "found", "kind", "number", "plot"]
def W__law_room (F__law_place : List D → EM RV) (F__law_top : List D → EM RV) : SM :=
  (sSeq (sPar 13 [2, 3, 4] (kDat (eTup aNil) (kLst (eLst aNil) (kDat (eC (.int 0)) kNil)))) (sSeq (sFor (eItems (eVar 1)) (gT 2 (gCons_ (gN 5) (gCons_ (gN 6) gNil_))) (sSeq (sIf (eT (eBin eqM (eVar 5) (eC (.str "ask")))) (sSeq (sMut 3 (eVal (eCall F__law_place (aCons (eVar 0) (aCons (eVar 2) (aCons (eVar 6) aNil))))) apF) (sSet 2 (eCall tupleM (aCons (eFrz (eCall sortM (aCons (eBin addM (eVar 2) (eTup (aCons (eTup (aCons (eBin ixM (eVarB 3) (eUn negM (eC (.int 1)))) (aCons (eVar 6) aNil))) aNil))) aNil))) aNil)))) (sSet 2 (eCall tupleM (aCons (eFrz (eComp (eItems (eVar 2)) (gN 7) (eT (eBin neM (eBin ixM (eVar 7) (eC (.int 0))) (eBin ixM (eVarB 3) (eVar 6)))) (eVar 7) [7])) aNil)))) (sSet 4 (eCall maxM (aCons (eVar 4) (aCons (eVal (eCall F__law_top (aCons (eVar 2) aNil))) aNil)))))) (sRet (eVar 4))))
theorem S__law_room : FnScope N__law_room ["rule", "program"] (defScope st__law_room) := ⟨rfl, rfl, rfl, by decide +kernel, rfl, by decide +kernel, by decide +kernel⟩
theorem B__law_room (B : Bl mg) (Ex : EX P w K mg base) {F__law_place : List D → EM RV} (H__law_place : FnG P w K mg base "_law_place" (k + 3) none 3 F__law_place) {F__law_top : List D → EM RV} (H__law_top : FnG P w K mg base "_law_top" (k + 3) none 1 F__law_top) (hr : Room (k + 3) (A.deeper (envOfC "_law_room" (defScope st__law_room) sh.heap.objs.size a cdv))) :
    DSs (cxOf (L2.CX P w) P w K mg base N__law_room "_law_room" (defScope st__law_room) a cdv A outer sh H E) wd (fun _ => E) (defBody st__law_room) (W__law_room F__law_place F__law_top) := by
  have nd : (N__law_room).Nodup := S__law_room.nd
  have hu := Room.u65 hr
  unfold W__law_room
  exact (dss_cons (ds_asgK 13 rfl (dks_dat (de_tup da_nil) (dks_lst (df_lst da_nil) (dks_dat de_int dks_nil))) (gnm_cons 2 nd (gnm_cons 3 nd (gnm_cons 4 nd gnm_nil)))) (dss_cons (ds_for (poF) rfl (dis_seq (de_var 1)) (dg_tup rfl (dgs_cons (dg_name 5 nd) (dgs_cons (dg_name 6 nd) dgs_nil))) (dss_cons (ds_if (dt_c (c_eq hu) (DE.db (de_var 5)) (DE.db de_str)) (dss_cons (ds_append 3 (DR.de (dr_call H__law_place hr rfl hxF (dar_cons (de_var 0) (dar_cons (de_var 2) (dar_cons (de_var 6) dar_nil)))))) (dss_one (ds_set 2 nd (de_blt (b_tuple B.tuple) rfl (dbs_cons (DE.db (DF.de (df_blt (b_sorted B.sorted hu) rfl (dbs_cons (DE.db (de_add (DE.db (de_var 2)) (DE.db (de_tup (da_cons (de_tup (da_cons (de_ix (db_var 3) (DE.db (de_neg de_int))) (da_cons (de_var 6) da_nil))) da_nil))))) dbs_nil)))) dbs_nil))))) (dss_one (ds_set 2 nd (de_blt (b_tuple B.tuple) rfl (dbs_cons (DE.db (DF.de (df_comp (own := [("plot", 7)]) rfl nd (di_seq (DE.db (de_var 2))) (blkOk_by (by kernel_rfl)) (by decide) (fun _ _ _ _ _ => (dg_name 7 nd)) (fun _ _ _ _ _ => (dts_one (dt_c (c_ne hu) (DE.db (de_ix (DE.db (de_var 7)) (DE.db de_int))) (DE.db (de_ix (db_var 3) (DE.db (de_var 6))))))) (fun _ _ _ _ _ => (de_var 7))))) dbs_nil))))) (dss_one (ds_set 4 nd (de_blt (b_max B.max rfl) rfl (dbs_cons (DE.db (de_var 4)) (dbs_cons (DE.db (DR.de (dr_call H__law_top hr rfl hxF (dar_cons (de_var 2) dar_nil)))) dbs_nil))))))) (dss_one (ds_ret (de_var 4)))))
theorem G__law_room {fd : FuncData} (Fu : Fun K "_law_room" "_law_room" st__law_room a fd) (hm : mg "_law_room" = some (.ref a)) (hb : L2.Binds K fd ["rule", "program"] []) (B : Bl mg) (Ex : EX P w K mg base) {F__law_place : List D → EM RV} (H__law_place : FnG P w K mg base "_law_place" (k + 3) none 3 F__law_place) {F__law_top : List D → EM RV} (H__law_top : FnG P w K mg base "_law_top" (k + 3) none 1 F__law_top) : FnG P w K mg base "_law_room" (k + 4) none 2 (runB (W__law_room F__law_place F__law_top) none 6) :=
  fnG_mk Fu hm hb S__law_room rfl fun _ _ _ _ _ _ _ hr => B__law_room B Ex H__law_place H__law_top hr
/-! _law_draw -/
def st__law_draw : Stmt := top 39
def N__law_draw : List Str := ["pot", "many", "found", "cell"]
def W__law_draw : SM :=
  (sSeq (sIf (eT (eBin ltM (eVar 1) (eC (.int 2)))) (sRet (eC (.int 0))) sNop) (sSeq (sIf (eT (eBin gtM (eIxR 0 (eC (.int 3))) (eC (.int 0)))) (sSeq (sSet 2 (eBin modM (eCall intM (aCons (eIxR 0 (eC (.int 3))) aNil)) (eVar 1))) (sSeq (sSetIxR 0 (eBin divM (eIxR 0 (eC (.int 3))) (eVar 1)) (eC (.int 3))) (sRet (eVar 2)))) sNop) (sSeq (sSet 3 (eC (.int 0))) (sSeq (sIf (eT (eBin ltM (eIxR 0 (eC (.int 1))) (eCall lenM (aCons (eIxR 0 (eC (.int 0))) aNil)))) (sSeq (sSet 3 (eBin ixM (eIxR 0 (eC (.int 0))) (eIxR 0 (eC (.int 1))))) (sSeq (sSetIxR 0 (eBin addM (eIxR 0 (eC (.int 1))) (eC (.int 1))) (eC (.int 1))) (sIf (eT (eBin geM (eVar 3) (eBin powM (eC (.int 10)) (eC (.int 18))))) (sSeq (sSetIxR 0 (eBin divM (eVar 3) (eVar 1)) (eC (.int 3))) (sRet (eBin modM (eCall intM (aCons (eVar 3) aNil)) (eVar 1)))) sNop))) sNop) (sSeq (sSetIxR 0 (eBin modM (eCall intM (aCons (eBin addM (eBin addM (eBin mulM (eIxR 0 (eC (.int 2))) (eC (.int 48271))) (eVar 3)) (eC (.int 12345))) aNil)) (eC (.int 2147483647))) (eC (.int 2))) (sRet (eBin modM (eCall intM (aCons (eBin addM (eBin divM (eBin mulM (eIxR 0 (eC (.int 2))) (eIxR 0 (eC (.int 2)))) (eC (.int 64))) (eBin divM (eIxR 0 (eC (.int 2))) (eC (.int 7)))) aNil)) (eVar 1))))))))
theorem S__law_draw : FnScope N__law_draw ["pot", "many"] (defScope st__law_draw) := ⟨rfl, rfl, rfl, by decide +kernel, rfl, by decide +kernel, by decide +kernel⟩
theorem B__law_draw (B : Bl mg) (Ex : EX P w K mg base) (hr : Room (k + 3) (A.deeper (envOfC "_law_draw" (defScope st__law_draw) sh.heap.objs.size a cdv))) :
    DSs (cxOf (L2.CX P w) P w K mg base N__law_draw "_law_draw" (defScope st__law_draw) a cdv A outer sh H E) wd (fun _ => E) (defBody st__law_draw) (W__law_draw) := by
  have nd : (N__law_draw).Nodup := S__law_draw.nd
  have hu := Room.u65 hr
  unfold W__law_draw
  exact (dss_cons (ds_if (dt_c c_lt (DE.db (de_var 1)) (DE.db de_int)) (dss_one (ds_ret de_int)) dss_nil) (dss_cons (ds_if (dt_c c_gt (DE.db (de_ixR 0 (DE.db de_int))) (DE.db de_int)) (dss_cons (ds_set 2 nd (de_mod (DE.db (de_blt (b_int B.int) rfl (dbs_cons (DE.db (de_ixR 0 (DE.db de_int))) dbs_nil))) (DE.db (de_var 1)))) (dss_cons (ds_setIxR 0 (de_div (DE.db (de_ixR 0 (DE.db de_int))) (DE.db (de_var 1))) (DE.db de_int)) (dss_one (ds_ret (de_var 2))))) dss_nil) (dss_cons (ds_set 3 nd de_int) (dss_cons (ds_if (dt_c c_lt (DE.db (de_ixR 0 (DE.db de_int))) (DE.db (de_blt (b_len B.len) rfl (dbs_cons (DE.db (de_ixR 0 (DE.db de_int))) dbs_nil)))) (dss_cons (ds_set 3 nd (de_ix (DE.db (de_ixR 0 (DE.db de_int))) (DE.db (de_ixR 0 (DE.db de_int))))) (dss_cons (ds_setIxR 0 (de_add (DE.db (de_ixR 0 (DE.db de_int))) (DE.db de_int)) (DE.db de_int)) (dss_one (ds_if (dt_c c_ge (DE.db (de_var 3)) (DE.db (de_pow (DE.db de_int) (DE.db de_int)))) (dss_cons (ds_setIxR 0 (de_div (DE.db (de_var 3)) (DE.db (de_var 1))) (DE.db de_int)) (dss_one (ds_ret (de_mod (DE.db (de_blt (b_int B.int) rfl (dbs_cons (DE.db (de_var 3)) dbs_nil))) (DE.db (de_var 1)))))) dss_nil)))) dss_nil) (dss_cons (ds_setIxR 0 (de_mod (DE.db (de_blt (b_int B.int) rfl (dbs_cons (DE.db (de_add (DE.db (de_add (DE.db (de_mul (DE.db (de_ixR 0 (DE.db de_int))) (DE.db de_int))) (DE.db (de_var 3)))) (DE.db de_int))) dbs_nil))) (DE.db de_int)) (DE.db de_int)) (dss_one (ds_ret (de_mod (DE.db (de_blt (b_int B.int) rfl (dbs_cons (DE.db (de_add (DE.db (de_div (DE.db (de_mul (DE.db (de_ixR 0 (DE.db de_int))) (DE.db (de_ixR 0 (DE.db de_int))))) (DE.db de_int))) (DE.db (de_div (DE.db (de_ixR 0 (DE.db de_int))) (DE.db de_int))))) dbs_nil))) (DE.db (de_var 1))))))))))
theorem G__law_draw {fd : FuncData} (Fu : Fun K "_law_draw" "_law_draw" st__law_draw a fd) (hm : mg "_law_draw" = some (.ref a)) (hb : L2.Binds K fd ["pot", "many"] []) (B : Bl mg) (Ex : EX P w K mg base) : FnG P w K mg base "_law_draw" (k + 4) (some 0) 2 (runB (W__law_draw) (some 0) 2) :=
  fnG_mk Fu hm hb S__law_draw rfl fun _ _ _ _ _ _ _ hr => B__law_draw B Ex hr
/-! _law_pick -/
def st__law_pick : Stmt := top 40
def N__law_pick : List Str := ["pot", "row"]
def W__law_pick (F__law_draw : List D → EM RV) : SM :=
  (sRet (eBin ixM (eVar 1) (eVal (eCall F__law_draw (aRoot 0 (aCons (eCall lenM (aCons (eVar 1) aNil)) aNil))))))
theorem S__law_pick : FnScope N__law_pick ["pot", "row"] (defScope st__law_pick) := ⟨rfl, rfl, rfl, by decide +kernel, rfl, by decide +kernel, by decide +kernel⟩
theorem B__law_pick (B : Bl mg) (Ex : EX P w K mg base) {F__law_draw : List D → EM RV} (H__law_draw : FnG P w K mg base "_law_draw" (k + 3) (some 0) 2 F__law_draw) (hr : Room (k + 3) (A.deeper (envOfC "_law_pick" (defScope st__law_pick) sh.heap.objs.size a cdv))) :
    DSs (cxOf (L2.CX P w) P w K mg base N__law_pick "_law_pick" (defScope st__law_pick) a cdv A outer sh H E) wd (fun _ => E) (defBody st__law_pick) (W__law_pick F__law_draw) := by
  have nd : (N__law_pick).Nodup := S__law_pick.nd
  have hu := Room.u65 hr
  unfold W__law_pick
  exact (dss_one (ds_ret (de_ix (DE.db (de_var 1)) (DE.db (DR.de (dr_call H__law_draw hr rfl hxF (dar_root 0 (dar_cons (de_blt (b_len B.len) rfl (dbs_cons (DE.db (de_var 1)) dbs_nil)) dar_nil))))))))
theorem G__law_pick {fd : FuncData} (Fu : Fun K "_law_pick" "_law_pick" st__law_pick a fd) (hm : mg "_law_pick" = some (.ref a)) (hb : L2.Binds K fd ["pot", "row"] []) (B : Bl mg) (Ex : EX P w K mg base) {F__law_draw : List D → EM RV} (H__law_draw : FnG P w K mg base "_law_draw" (k + 3) (some 0) 2 F__law_draw) : FnG P w K mg base "_law_pick" (k + 4) (some 0) 2 (runB (W__law_pick F__law_draw) (some 0) 0) :=
  fnG_mk Fu hm hb S__law_pick rfl fun _ _ _ _ _ _ _ hr => B__law_pick B Ex H__law_draw hr
/-! _law_rule -/
def st__law_rule : Stmt := top 47
def N__law_rule : List Str := ["pot"]
def W__law_rule (F__law_pick : List D → EM RV) : SM :=
  (sRetR (eCall F__law_pick (aRoot 0 (aCons (eFrz (eLst (aCons (eC (.str "first")) (aCons (eC (.str "best")) (aCons (eC (.str "worst")) (aCons (eC (.str "last")) (aCons (eC (.str "even")) aNil))))))) aNil))))
theorem S__law_rule : FnScope N__law_rule ["pot"] (defScope st__law_rule) := ⟨rfl, rfl, rfl, by decide +kernel, rfl, by decide +kernel, by decide +kernel⟩
theorem B__law_rule (B : Bl mg) (Ex : EX P w K mg base) {F__law_pick : List D → EM RV} (H__law_pick : FnG P w K mg base "_law_pick" (k + 3) (some 0) 2 F__law_pick) (hr : Room (k + 3) (A.deeper (envOfC "_law_rule" (defScope st__law_rule) sh.heap.objs.size a cdv))) :
    DSs (cxOf (L2.CX P w) P w K mg base N__law_rule "_law_rule" (defScope st__law_rule) a cdv A outer sh H E) wd (fun _ => E) (defBody st__law_rule) (W__law_rule F__law_pick) := by
  have nd : (N__law_rule).Nodup := S__law_rule.nd
  have hu := Room.u65 hr
  unfold W__law_rule
  exact (dss_one (ds_retR (dr_call H__law_pick hr rfl hxF (dar_root 0 (dar_cons (DF.de (df_lst (da_cons de_str (da_cons de_str (da_cons de_str (da_cons de_str (da_cons de_str da_nil))))))) dar_nil)))))
theorem G__law_rule {fd : FuncData} (Fu : Fun K "_law_rule" "_law_rule" st__law_rule a fd) (hm : mg "_law_rule" = some (.ref a)) (hb : L2.Binds K fd ["pot"] []) (B : Bl mg) (Ex : EX P w K mg base) {F__law_pick : List D → EM RV} (H__law_pick : FnG P w K mg base "_law_pick" (k + 3) (some 0) 2 F__law_pick) : FnG P w K mg base "_law_rule" (k + 4) (some 0) 1 (runB (W__law_rule F__law_pick) (some 0) 0) :=
  fnG_mk Fu hm hb S__law_rule rfl fun _ _ _ _ _ _ _ hr => B__law_rule B Ex H__law_pick hr
/-! _law_program -/
def st__law_program : Stmt := top 49
def N__law_program : List Str := ["pot", "many", "row", "left", "asked", "k"]
def W__law_program (F__law_draw : List D → EM RV) : SM :=
  (sSeq (sPar 11 [2, 3] (kLst (eLst aNil) (kLst (eLst aNil) kNil))) (sSeq (sSet 4 (eC (.int 0))) (sSeq (sFor (eCall rng1M (aCons (eVar 1) aNil)) (gN 5) (sIf (tAnd_ (eT (eBin neM (eVarB 3) (eFrz (eLst aNil)))) (eT (eBin eqM (eVal (eCall F__law_draw (aRoot 0 (aCons (eC (.int 3)) aNil)))) (eC (.int 0))))) (sAppPop 2 3 (eC (.str "let")) (eVal (eCall F__law_draw (aRoot 0 (aCons (eCall lenM (aCons (eVarB 3) aNil)) aNil))))) (sSeq (sMut 2 (eTup (aCons (eC (.str "ask")) (aCons (eBin addM (eC (.int 1)) (eVal (eCall F__law_draw (aRoot 0 (aCons (eC (.int 4)) aNil))))) aNil))) apF) (sSeq (sMut 3 (eVar 4) apF) (sSet 4 (eBin addM (eVar 4) (eC (.int 1)))))))) (sRet (eCall tupleM (aCons (eVarB 2) aNil))))))
theorem S__law_program : FnScope N__law_program ["pot", "many"] (defScope st__law_program) := ⟨rfl, rfl, rfl, by decide +kernel, rfl, by decide +kernel, by decide +kernel⟩
theorem B__law_program (B : Bl mg) (Ex : EX P w K mg base) {F__law_draw : List D → EM RV} (H__law_draw : FnG P w K mg base "_law_draw" (k + 3) (some 0) 2 F__law_draw) (hr : Room (k + 3) (A.deeper (envOfC "_law_program" (defScope st__law_program) sh.heap.objs.size a cdv))) :
    DSs (cxOf (L2.CX P w) P w K mg base N__law_program "_law_program" (defScope st__law_program) a cdv A outer sh H E) wd (fun _ => E) (defBody st__law_program) (W__law_program F__law_draw) := by
  have nd : (N__law_program).Nodup := S__law_program.nd
  have hu := Room.u65 hr
  unfold W__law_program
  exact (dss_cons (ds_par2 11 2 3 rfl nd (dks_lst (df_lst da_nil) (dks_lst (df_lst da_nil) dks_nil))) (dss_cons (ds_set 4 nd de_int) (dss_cons (ds_for (poF) rfl (dis_range1 B.range rfl (da_cons (de_var 1) da_nil)) (dg_name 5 nd) (dss_one (ds_if (DW.dt (dw_and (dt_c (c_ne hu) (db_var 3) (DE.db (DF.de (df_lst da_nil)))) (dw_and1 (dt_c (c_eq hu) (DE.db (DR.de (dr_call H__law_draw hr rfl hxF (dar_root 0 (dar_cons de_int dar_nil))))) (DE.db de_int))))) (dss_one (ds_appPop 2 3 (by decide) de_str (DR.de (dr_call H__law_draw hr rfl hxF (dar_root 0 (dar_cons (de_blt (b_len B.len) rfl (dbs_cons (db_var 3) dbs_nil)) dar_nil)))))) (dss_cons (ds_append 2 (de_tup (da_cons de_str (da_cons (de_add (DE.db de_int) (DE.db (DR.de (dr_call H__law_draw hr rfl hxF (dar_root 0 (dar_cons de_int dar_nil)))))) da_nil)))) (dss_cons (ds_append 3 (de_var 4)) (dss_one (ds_set 4 nd (de_add (DE.db (de_var 4)) (DE.db de_int))))))))) (dss_one (ds_ret (de_blt (b_tuple B.tuple) rfl (dbs_cons (db_var 2) dbs_nil)))))))
theorem G__law_program {fd : FuncData} (Fu : Fun K "_law_program" "_law_program" st__law_program a fd) (hm : mg "_law_program" = some (.ref a)) (hb : L2.Binds K fd ["pot", "many"] []) (B : Bl mg) (Ex : EX P w K mg base) {F__law_draw : List D → EM RV} (H__law_draw : FnG P w K mg base "_law_draw" (k + 3) (some 0) 2 F__law_draw) : FnG P w K mg base "_law_program" (k + 4) (some 0) 2 (runB (W__law_program F__law_draw) (some 0) 4) :=
  fnG_mk Fu hm hb S__law_program rfl fun _ _ _ _ _ _ _ hr => B__law_program B Ex H__law_draw hr
/-! _law_same -/
def st__law_same : Stmt := top 41
def N__law_same : List Str := ["found", "due", "k"]
def W__law_same (F__law_same : List D → EM RV) : SM :=
  (sSeq (sIf (tOr_ (eT (eCall instM (aCons (eVar 1) (aCons (eC (.raw (.ty "tuple"))) aNil)))) (eT (eCall instM (aCons (eVar 1) (aCons (eC (.raw (.ty "list"))) aNil))))) (sSeq (sIf (tOr_ (eT (eBin neM (eCall instM (aCons (eVar 1) (aCons (eC (.raw (.ty "tuple"))) aNil))) (eCall instM (aCons (eVar 0) (aCons (eC (.raw (.ty "tuple"))) aNil))))) (eT (eBin neM (eCall instM (aCons (eVar 1) (aCons (eC (.raw (.ty "list"))) aNil))) (eCall instM (aCons (eVar 0) (aCons (eC (.raw (.ty "list"))) aNil)))))) (sRet (eC (.bl false))) sNop) (sSeq (sIf (eT (eBin neM (eCall lenM (aCons (eVar 0) aNil)) (eCall lenM (aCons (eVar 1) aNil)))) (sRet (eC (.bl false))) sNop) (sRet (eBin eqM (eFrz (eComp (eCall rng1M (aCons (eCall lenM (aCons (eVar 1) aNil)) aNil)) (gN 2) (tNot_ (eT (eVal (eCall F__law_same (aCons (eBin ixM (eVar 0) (eVar 2)) (aCons (eBin ixM (eVar 1) (eVar 2)) aNil)))))) (eVar 2) [2])) (eFrz (eLst aNil)))))) sNop) (sSeq (sIf (eT (eBin (isM false) (eVar 1) (eC .non))) (sRet (eBin (isM false) (eVar 0) (eC .non))) sNop) (sSeq (sIf (eT (eCall instM (aCons (eVar 1) (aCons (eC (.raw (.ty "str"))) aNil)))) (sRet (eAnd (eCall instM (aCons (eVar 0) (aCons (eC (.raw (.ty "str"))) aNil))) (eBin eqM (eVar 0) (eVar 1)))) sNop) (sRet (eAnd (eCall instM (aCons (eVar 0) (aCons (eC (.raw (.ty "int"))) aNil))) (eAnd (eBin eqM (eCall instM (aCons (eVar 0) (aCons (eC (.raw (.ty "bool"))) aNil))) (eCall instM (aCons (eVar 1) (aCons (eC (.raw (.ty "bool"))) aNil)))) (eBin eqM (eVar 0) (eVar 1))))))))
theorem S__law_same : FnScope N__law_same ["found", "due"] (defScope st__law_same) := ⟨rfl, rfl, rfl, by decide +kernel, rfl, by decide +kernel, by decide +kernel⟩
theorem B__law_same (B : Bl mg) (Ex : EX P w K mg base) {F__law_same : List D → EM RV} (H__law_same : FnG P w K mg base "_law_same" (k + 3) none 2 F__law_same) (hr : Room (k + 3) (A.deeper (envOfC "_law_same" (defScope st__law_same) sh.heap.objs.size a cdv))) :
    DSs (cxOf (L2.CX P w) P w K mg base N__law_same "_law_same" (defScope st__law_same) a cdv A outer sh H E) wd (fun _ => E) (defBody st__law_same) (W__law_same F__law_same) := by
  have nd : (N__law_same).Nodup := S__law_same.nd
  have hu := Room.u65 hr
  unfold W__law_same
  exact (dss_cons (ds_if (DW.dt (dw_or (dt_val (de_blt (b_isinstance B.isinstance) rfl (dbs_cons (DE.db (de_var 1)) (dbs_cons (DE.db (de_ty rfl B.tuple (by decide +kernel))) dbs_nil)))) (dw_or1 (dt_val (de_blt (b_isinstance B.isinstance) rfl (dbs_cons (DE.db (de_var 1)) (dbs_cons (DE.db (de_ty rfl B.list (by decide +kernel))) dbs_nil))))))) (dss_cons (ds_if (DW.dt (dw_or (dt_c (c_ne hu) (DE.db (de_blt (b_isinstance B.isinstance) rfl (dbs_cons (DE.db (de_var 1)) (dbs_cons (DE.db (de_ty rfl B.tuple (by decide +kernel))) dbs_nil)))) (DE.db (de_blt (b_isinstance B.isinstance) rfl (dbs_cons (DE.db (de_var 0)) (dbs_cons (DE.db (de_ty rfl B.tuple (by decide +kernel))) dbs_nil))))) (dw_or1 (dt_c (c_ne hu) (DE.db (de_blt (b_isinstance B.isinstance) rfl (dbs_cons (DE.db (de_var 1)) (dbs_cons (DE.db (de_ty rfl B.list (by decide +kernel))) dbs_nil)))) (DE.db (de_blt (b_isinstance B.isinstance) rfl (dbs_cons (DE.db (de_var 0)) (dbs_cons (DE.db (de_ty rfl B.list (by decide +kernel))) dbs_nil)))))))) (dss_one (ds_ret de_bl)) dss_nil) (dss_cons (ds_if (dt_c (c_ne hu) (DE.db (de_blt (b_len B.len) rfl (dbs_cons (DE.db (de_var 0)) dbs_nil))) (DE.db (de_blt (b_len B.len) rfl (dbs_cons (DE.db (de_var 1)) dbs_nil)))) (dss_one (ds_ret de_bl)) dss_nil) (dss_one (ds_ret (de_c (c_eq hu) (DE.db (DF.de (df_comp (own := [("k", 2)]) rfl nd (DIS.di (dis_range1 B.range rfl (da_cons (de_blt (b_len B.len) rfl (dbs_cons (DE.db (de_var 1)) dbs_nil)) da_nil))) (blkOk_by (by kernel_rfl)) (by decide) (fun _ _ _ _ _ => (dg_name 2 nd)) (fun _ _ _ _ _ => (dts_one (dt_not (dt_val (DR.de (dr_call H__law_same hr rfl hx0 (dar_cons (de_ix (DE.db (de_var 0)) (DE.db (de_var 2))) (dar_cons (de_ix (DE.db (de_var 1)) (DE.db (de_var 2))) dar_nil)))))))) (fun _ _ _ _ _ => (de_var 2))))) (DE.db (DF.de (df_lst da_nil)))))))) dss_nil) (dss_cons (ds_if (dt_c c_is (DE.db (de_var 1)) (DE.db de_non)) (dss_one (ds_ret (de_c c_is (DE.db (de_var 0)) (DE.db de_non)))) dss_nil) (dss_cons (ds_if (dt_val (de_blt (b_isinstance B.isinstance) rfl (dbs_cons (DE.db (de_var 1)) (dbs_cons (DE.db (de_ty rfl B.str (by decide +kernel))) dbs_nil)))) (dss_one (ds_ret (de_and (de_blt (b_isinstance B.isinstance) rfl (dbs_cons (DE.db (de_var 0)) (dbs_cons (DE.db (de_ty rfl B.str (by decide +kernel))) dbs_nil))) (de_one (de_c (c_eq hu) (DE.db (de_var 0)) (DE.db (de_var 1))))))) dss_nil) (dss_one (ds_ret (de_and (de_blt (b_isinstance B.isinstance) rfl (dbs_cons (DE.db (de_var 0)) (dbs_cons (DE.db (de_ty rfl B.int (by decide +kernel))) dbs_nil))) (de_and (de_c (c_eq hu) (DE.db (de_blt (b_isinstance B.isinstance) rfl (dbs_cons (DE.db (de_var 0)) (dbs_cons (DE.db (de_ty rfl B.bool (by decide +kernel))) dbs_nil)))) (DE.db (de_blt (b_isinstance B.isinstance) rfl (dbs_cons (DE.db (de_var 1)) (dbs_cons (DE.db (de_ty rfl B.bool (by decide +kernel))) dbs_nil))))) (de_one (de_c (c_eq hu) (DE.db (de_var 0)) (DE.db (de_var 1)))))))))))
theorem G__law_same {fd : FuncData} (Fu : Fun K "_law_same" "_law_same" st__law_same a fd) (hm : mg "_law_same" = some (.ref a)) (hb : L2.Binds K fd ["found", "due"] []) (B : Bl mg) (Ex : EX P w K mg base) {F__law_same : List D → EM RV} (H__law_same : FnG P w K mg base "_law_same" (k + 3) none 2 F__law_same) : FnG P w K mg base "_law_same" (k + 4) none 2 (runB (W__law_same F__law_same) none 1) :=
  fnG_mk Fu hm hb S__law_same rfl fun _ _ _ _ _ _ _ hr => B__law_same B Ex H__law_same hr
/-! kept_steps -/
def st_kept_steps : Stmt := top 30
def N_kept_steps : List Str := ["program", "numbers", "at", "step", "asks", "kept", "found", "kind", "number"]
def W_kept_steps : SM :=
  (sSeq (sSet 4 (eFrz (eComp (eCall enuM (aCons (eVar 0) aNil)) (gT 2 (gCons_ (gN 2) (gCons_ (gN 3) gNil_))) (eT (eBin eqM (eBin ixM (eVar 3) (eC (.int 0))) (eC (.str "ask")))) (eVar 2) [2, 3]))) (sSeq (sSet 5 (eFrz (eComp (eItems (eVar 1)) (gN 2) (eT (eBin eqM (eBin ixM (eBin ixM (eVar 0) (eVar 2)) (eC (.int 0))) (eC (.str "ask")))) (eVar 2) [2]))) (sSeq (sSetF 6 (eLst aNil)) (sSeq (sFor (eItems (eVar 1)) (gN 2) (sSeq (sAsg (gT 2 (gCons_ (gN 7) (gCons_ (gN 8) gNil_))) (eBin ixM (eVar 0) (eVar 2))) (sIf (eT (eBin eqM (eVar 7) (eC (.str "ask")))) (sMut 6 (eBin ixM (eVar 0) (eVar 2)) apF) (sIf (eT (eBin (inM true) (eBin ixM (eVar 4) (eVar 8)) (eVar 5))) (sRet (eC .non)) (sMut 6 (eTup (aCons (eVar 7) (aCons (eIdx (eVar 5) (eBin ixM (eVar 4) (eVar 8))) aNil))) apF))))) (sRet (eCall tupleM (aCons (eVarB 6) aNil)))))))
theorem S_kept_steps : FnScope N_kept_steps ["program", "numbers"] (defScope st_kept_steps) := ⟨rfl, rfl, rfl, by decide +kernel, rfl, by decide +kernel, by decide +kernel⟩
theorem B_kept_steps (B : Bl mg) (Ex : EX P w K mg base) (hr : Room (k + 3) (A.deeper (envOfC "kept_steps" (defScope st_kept_steps) sh.heap.objs.size a cdv))) :
    DSs (cxOf (L2.CX P w) P w K mg base N_kept_steps "kept_steps" (defScope st_kept_steps) a cdv A outer sh H E) wd (fun _ => E) (defBody st_kept_steps) (W_kept_steps) := by
  have nd : (N_kept_steps).Nodup := S_kept_steps.nd
  have hu := Room.u65 hr
  unfold W_kept_steps
  exact (dss_cons (ds_setC 4 (own := [("at", 2), ("step", 3)]) rfl nd (di_enum B.enumerate rfl (dbs_cons (DE.db (de_var 0)) dbs_nil)) (blkOk_by (by kernel_rfl)) (by decide) (fun _ _ _ _ _ => (dg_tup rfl (dgs_cons (dg_name 2 nd) (dgs_cons (dg_name 3 nd) dgs_nil)))) (fun _ _ _ _ _ => (dts_one (dt_c (c_eq hu) (DE.db (de_ix (DE.db (de_var 3)) (DE.db de_int))) (DE.db de_str)))) (fun _ _ _ _ _ => (de_var 2))) (dss_cons (ds_setC 5 (own := [("at", 2)]) rfl nd (di_seq (DE.db (de_var 1))) (blkOk_by (by kernel_rfl)) (by decide) (fun _ _ _ _ _ => (dg_name 2 nd)) (fun _ _ _ _ _ => (dts_one (dt_c (c_eq hu) (DE.db (de_ix (DE.db (de_ix (DE.db (de_var 0)) (DE.db (de_var 2)))) (DE.db de_int))) (DE.db de_str)))) (fun _ _ _ _ _ => (de_var 2))) (dss_cons (ds_setF 6 nd (df_lst da_nil)) (dss_cons (ds_for (poF) rfl (dis_seq (de_var 1)) (dg_name 2 nd) (dss_cons (ds_asg (de_ix (DE.db (de_var 0)) (DE.db (de_var 2))) (dg_tup rfl (dgs_cons (dg_name 7 nd) (dgs_cons (dg_name 8 nd) dgs_nil)))) (dss_one (ds_if (dt_c (c_eq hu) (DE.db (de_var 7)) (DE.db de_str)) (dss_one (ds_append 6 (de_ix (DE.db (de_var 0)) (DE.db (de_var 2))))) (dss_one (ds_if (dt_c (c_notin hu) (DE.db (de_ix (DE.db (de_var 4)) (DE.db (de_var 8)))) (DE.db (de_var 5))) (dss_one (ds_ret de_non)) (dss_one (ds_append 6 (de_tup (da_cons (de_var 7) (da_cons (de_index hu (DE.db (de_var 5)) (DE.db (de_ix (DE.db (de_var 4)) (DE.db (de_var 8))))) da_nil))))))))))) (dss_one (ds_ret (de_blt (b_tuple B.tuple) rfl (dbs_cons (db_var 6) dbs_nil))))))))
theorem G_kept_steps {fd : FuncData} (Fu : Fun K "kept_steps" "kept_steps" st_kept_steps a fd) (hm : mg "kept_steps" = some (.ref a)) (hb : L2.Binds K fd ["program", "numbers"] []) (B : Bl mg) (Ex : EX P w K mg base) : FnG P w K mg base "kept_steps" (k + 4) none 2 (runB (W_kept_steps) none 7) :=
  fnG_mk Fu hm hb S_kept_steps rfl fun _ _ _ _ _ _ _ hr => B_kept_steps B Ex hr
/-! is_rule -/
def st_is_rule : Stmt := top 19
def N_is_rule : List Str := ["value"]
def W_is_rule : SM :=
  (sRet (eAnd (eCall instM (aCons (eVar 0) (aCons (eC (.raw (.ty "str"))) aNil))) (eBin (inM false) (eVar 0) (eC c_RULES))))
theorem S_is_rule : FnScope N_is_rule ["value"] (defScope st_is_rule) := ⟨rfl, rfl, rfl, by decide +kernel, rfl, by decide +kernel, by decide +kernel⟩
theorem B_is_rule (B : Bl mg) (Ex : EX P w K mg base) (hr : Room (k + 3) (A.deeper (envOfC "is_rule" (defScope st_is_rule) sh.heap.objs.size a cdv))) :
    DSs (cxOf (L2.CX P w) P w K mg base N_is_rule "is_rule" (defScope st_is_rule) a cdv A outer sh H E) wd (fun _ => E) (defBody st_is_rule) (W_is_rule) := by
  have nd : (N_is_rule).Nodup := S_is_rule.nd
  have hu := Room.u65 hr
  unfold W_is_rule
  exact (dss_one (ds_ret (de_and (de_blt (b_isinstance B.isinstance) rfl (dbs_cons (DE.db (de_var 0)) (dbs_cons (DE.db (de_ty rfl B.str (by decide +kernel))) dbs_nil))) (de_one (de_c (c_in hu) (DE.db (de_var 0)) (DE.db (de_gc Ex.h_RULES rfl)))))))
theorem G_is_rule {fd : FuncData} (Fu : Fun K "is_rule" "is_rule" st_is_rule a fd) (hm : mg "is_rule" = some (.ref a)) (hb : L2.Binds K fd ["value"] []) (B : Bl mg) (Ex : EX P w K mg base) : FnG P w K mg base "is_rule" (k + 4) none 1 (runB (W_is_rule) none 0) :=
  fnG_mk Fu hm hb S_is_rule rfl fun _ _ _ _ _ _ _ hr => B_is_rule B Ex hr
/-! is_number -/
def st_is_number : Stmt := top 7
def N_is_number : List Str := ["value", "least", "most"]
def W_is_number : SM :=
  (sRet (eAnd (eCall instM (aCons (eVar 0) (aCons (eC (.raw (.ty "int"))) aNil))) (eAnd (eNot (eCall instM (aCons (eVar 0) (aCons (eC (.raw (.ty "bool"))) aNil)))) (eChain leM leM (eVar 1) (eVar 0) (eVar 2)))))
theorem S_is_number : FnScope N_is_number ["value", "least", "most"] (defScope st_is_number) := ⟨rfl, rfl, rfl, by decide +kernel, rfl, by decide +kernel, by decide +kernel⟩
theorem B_is_number (B : Bl mg) (Ex : EX P w K mg base) (hr : Room (k + 3) (A.deeper (envOfC "is_number" (defScope st_is_number) sh.heap.objs.size a cdv))) :
    DSs (cxOf (L2.CX P w) P w K mg base N_is_number "is_number" (defScope st_is_number) a cdv A outer sh H E) wd (fun _ => E) (defBody st_is_number) (W_is_number) := by
  have nd : (N_is_number).Nodup := S_is_number.nd
  have hu := Room.u65 hr
  unfold W_is_number
  exact (dss_one (ds_ret (de_and (de_blt (b_isinstance B.isinstance) rfl (dbs_cons (DE.db (de_var 0)) (dbs_cons (DE.db (de_ty rfl B.int (by decide +kernel))) dbs_nil))) (de_and (de_not (de_blt (b_isinstance B.isinstance) rfl (dbs_cons (DE.db (de_var 0)) (dbs_cons (DE.db (de_ty rfl B.bool (by decide +kernel))) dbs_nil)))) (de_one (de_cc c_le c_le (DE.db (de_var 1)) (DE.db (de_var 0)) (DE.db (de_var 2))))))))
theorem G_is_number {fd : FuncData} (Fu : Fun K "is_number" "is_number" st_is_number a fd) (hm : mg "is_number" = some (.ref a)) (hb : L2.Binds K fd ["value", "least", "most"] []) (B : Bl mg) (Ex : EX P w K mg base) : FnG P w K mg base "is_number" (k + 4) none 3 (runB (W_is_number) none 0) :=
  fnG_mk Fu hm hb S_is_number rfl fun _ _ _ _ _ _ _ hr => B_is_number B Ex hr
/-! is_step -/
def st_is_step : Stmt := top 27
def N_is_step : List Str := ["value", "asked"]
def W_is_step (F_is_number : List D → EM RV) : SM :=
  (sSeq (sIf (tOr_ (tNot_ (eT (eCall instM (aCons (eVar 0) (aCons (eC (.raw (.ty "tuple"))) aNil))))) (tOr_ (eT (eBin neM (eCall lenM (aCons (eVar 0) aNil)) (eC (.int 2)))) (tNot_ (eT (eCall instM (aCons (eBin ixM (eVar 0) (eC (.int 0))) (aCons (eC (.raw (.ty "str"))) aNil))))))) (sRet (eC (.bl false))) sNop) (sSeq (sIf (eT (eBin eqM (eBin ixM (eVar 0) (eC (.int 0))) (eC (.str "ask")))) (sRetR (eCall F_is_number (aCons (eBin ixM (eVar 0) (eC (.int 1))) (aCons (eC (.int 1)) (aCons (eC c_MOST_FIELD) aNil))))) sNop) (sRet (eAnd (eBin eqM (eBin ixM (eVar 0) (eC (.int 0))) (eC (.str "let"))) (eVal (eCall F_is_number (aCons (eBin ixM (eVar 0) (eC (.int 1))) (aCons (eC (.int 0)) (aCons (eBin subM (eVar 1) (eC (.int 1))) aNil)))))))))
theorem S_is_step : FnScope N_is_step ["value", "asked"] (defScope st_is_step) := ⟨rfl, rfl, rfl, by decide +kernel, rfl, by decide +kernel, by decide +kernel⟩
theorem B_is_step (B : Bl mg) (Ex : EX P w K mg base) {F_is_number : List D → EM RV} (H_is_number : FnG P w K mg base "is_number" (k + 3) none 3 F_is_number) (hr : Room (k + 3) (A.deeper (envOfC "is_step" (defScope st_is_step) sh.heap.objs.size a cdv))) :
    DSs (cxOf (L2.CX P w) P w K mg base N_is_step "is_step" (defScope st_is_step) a cdv A outer sh H E) wd (fun _ => E) (defBody st_is_step) (W_is_step F_is_number) := by
  have nd : (N_is_step).Nodup := S_is_step.nd
  have hu := Room.u65 hr
  unfold W_is_step
  exact (dss_cons (ds_if (DW.dt (dw_or (dt_not (dt_val (de_blt (b_isinstance B.isinstance) rfl (dbs_cons (DE.db (de_var 0)) (dbs_cons (DE.db (de_ty rfl B.tuple (by decide +kernel))) dbs_nil))))) (dw_or (dt_c (c_ne hu) (DE.db (de_blt (b_len B.len) rfl (dbs_cons (DE.db (de_var 0)) dbs_nil))) (DE.db de_int)) (dw_or1 (dt_not (dt_val (de_blt (b_isinstance B.isinstance) rfl (dbs_cons (DE.db (de_ix (DE.db (de_var 0)) (DE.db de_int))) (dbs_cons (DE.db (de_ty rfl B.str (by decide +kernel))) dbs_nil))))))))) (dss_one (ds_ret de_bl)) dss_nil) (dss_cons (ds_if (dt_c (c_eq hu) (DE.db (de_ix (DE.db (de_var 0)) (DE.db de_int))) (DE.db de_str)) (dss_one (ds_retR (dr_call H_is_number hr rfl hxF (dar_cons (de_ix (DE.db (de_var 0)) (DE.db de_int)) (dar_cons de_int (dar_cons (de_gc Ex.h_MOST_FIELD rfl) dar_nil)))))) dss_nil) (dss_one (ds_ret (de_and (de_c (c_eq hu) (DE.db (de_ix (DE.db (de_var 0)) (DE.db de_int))) (DE.db de_str)) (de_one (DR.de (dr_call H_is_number hr rfl hxF (dar_cons (de_ix (DE.db (de_var 0)) (DE.db de_int)) (dar_cons de_int (dar_cons (de_sub (DE.db (de_var 1)) (DE.db de_int)) dar_nil)))))))))))
theorem G_is_step {fd : FuncData} (Fu : Fun K "is_step" "is_step" st_is_step a fd) (hm : mg "is_step" = some (.ref a)) (hb : L2.Binds K fd ["value", "asked"] []) (B : Bl mg) (Ex : EX P w K mg base) {F_is_number : List D → EM RV} (H_is_number : FnG P w K mg base "is_number" (k + 3) none 3 F_is_number) : FnG P w K mg base "is_step" (k + 4) none 2 (runB (W_is_step F_is_number) none 0) :=
  fnG_mk Fu hm hb S_is_step rfl fun _ _ _ _ _ _ _ hr => B_is_step B Ex H_is_number hr
/-! is_program -/
def st_is_program : Stmt := top 28
def N_is_program : List Str := ["value", "asked", "gone", "step"]
def W_is_program (F_is_step : List D → EM RV) : SM :=
  (sSeq (sIf (tOr_ (tNot_ (eT (eCall instM (aCons (eVar 0) (aCons (eC (.raw (.ty "tuple"))) aNil))))) (tNot_ (eT (eChain leM leM (eC (.int 1)) (eCall lenM (aCons (eVar 0) aNil)) (eC c_MOST_STEPS))))) (sRet (eC (.bl false))) sNop) (sSeq (sSet 1 (eC (.int 0))) (sSeq (sSetF 2 (eLst aNil)) (sSeq (sFor (eItems (eVar 0)) (gN 3) (sSeq (sIf (tNot_ (eT (eVal (eCall F_is_step (aCons (eVar 3) (aCons (eVar 1) aNil)))))) (sRet (eC (.bl false))) sNop) (sIf (eT (eBin eqM (eBin ixM (eVar 3) (eC (.int 0))) (eC (.str "ask")))) (sAug 1 (fun i j => i + j) (eC (.int 1))) (sIf (eT (eBin (inM false) (eBin ixM (eVar 3) (eC (.int 1))) (eVarB 2))) (sRet (eC (.bl false))) (sMut 2 (eBin ixM (eVar 3) (eC (.int 1))) apF))))) (sRet (eC (.bl true)))))))
theorem S_is_program : FnScope N_is_program ["value"] (defScope st_is_program) := ⟨rfl, rfl, rfl, by decide +kernel, rfl, by decide +kernel, by decide +kernel⟩
theorem B_is_program (B : Bl mg) (Ex : EX P w K mg base) {F_is_step : List D → EM RV} (H_is_step : FnG P w K mg base "is_step" (k + 3) none 2 F_is_step) (hr : Room (k + 3) (A.deeper (envOfC "is_program" (defScope st_is_program) sh.heap.objs.size a cdv))) :
    DSs (cxOf (L2.CX P w) P w K mg base N_is_program "is_program" (defScope st_is_program) a cdv A outer sh H E) wd (fun _ => E) (defBody st_is_program) (W_is_program F_is_step) := by
  have nd : (N_is_program).Nodup := S_is_program.nd
  have hu := Room.u65 hr
  unfold W_is_program
  exact (dss_cons (ds_if (DW.dt (dw_or (dt_not (dt_val (de_blt (b_isinstance B.isinstance) rfl (dbs_cons (DE.db (de_var 0)) (dbs_cons (DE.db (de_ty rfl B.tuple (by decide +kernel))) dbs_nil))))) (dw_or1 (dt_not (dt_cc c_le c_le (DE.db de_int) (DE.db (de_blt (b_len B.len) rfl (dbs_cons (DE.db (de_var 0)) dbs_nil))) (DE.db (de_gc Ex.h_MOST_STEPS rfl))))))) (dss_one (ds_ret de_bl)) dss_nil) (dss_cons (ds_set 1 nd de_int) (dss_cons (ds_setF 2 nd (df_lst da_nil)) (dss_cons (ds_for (poF) rfl (dis_seq (de_var 0)) (dg_name 3 nd) (dss_cons (ds_if (dt_not (dt_val (DR.de (dr_call H_is_step hr rfl hxF (dar_cons (de_var 3) (dar_cons (de_var 1) dar_nil)))))) (dss_one (ds_ret de_bl)) dss_nil) (dss_one (ds_if (dt_c (c_eq hu) (DE.db (de_ix (DE.db (de_var 3)) (DE.db de_int))) (DE.db de_str)) (dss_one (ds_aug 1 nd de_int ip_add)) (dss_one (ds_if (dt_c (c_in hu) (DE.db (de_ix (DE.db (de_var 3)) (DE.db de_int))) (db_var 2)) (dss_one (ds_ret de_bl)) (dss_one (ds_append 2 (de_ix (DE.db (de_var 3)) (DE.db de_int)))))))))) (dss_one (ds_ret de_bl))))))
theorem G_is_program {fd : FuncData} (Fu : Fun K "is_program" "is_program" st_is_program a fd) (hm : mg "is_program" = some (.ref a)) (hb : L2.Binds K fd ["value"] []) (B : Bl mg) (Ex : EX P w K mg base) {F_is_step : List D → EM RV} (H_is_step : FnG P w K mg base "is_step" (k + 3) none 2 F_is_step) : FnG P w K mg base "is_program" (k + 4) none 1 (runB (W_is_program F_is_step) none 3) :=
  fnG_mk Fu hm hb S_is_program rfl fun _ _ _ _ _ _ _ hr => B_is_program B Ex H_is_step hr
/-! with_plot -/
def st_with_plot : Stmt := top 15
def N_with_plot : List Str := ["layout", "plot"]
def W_with_plot : SM :=
  (sRet (eCall tupleM (aCons (eFrz (eCall sortM (aCons (eBin addM (eVar 0) (eTup (aCons (eVar 1) aNil))) aNil))) aNil)))
theorem S_with_plot : FnScope N_with_plot ["layout", "plot"] (defScope st_with_plot) := ⟨rfl, rfl, rfl, by decide +kernel, rfl, by decide +kernel, by decide +kernel⟩
theorem B_with_plot (B : Bl mg) (Ex : EX P w K mg base) (hr : Room (k + 3) (A.deeper (envOfC "with_plot" (defScope st_with_plot) sh.heap.objs.size a cdv))) :
    DSs (cxOf (L2.CX P w) P w K mg base N_with_plot "with_plot" (defScope st_with_plot) a cdv A outer sh H E) wd (fun _ => E) (defBody st_with_plot) (W_with_plot) := by
  have nd : (N_with_plot).Nodup := S_with_plot.nd
  have hu := Room.u65 hr
  unfold W_with_plot
  exact (dss_one (ds_ret (de_blt (b_tuple B.tuple) rfl (dbs_cons (DE.db (DF.de (df_blt (b_sorted B.sorted hu) rfl (dbs_cons (DE.db (de_add (DE.db (de_var 0)) (DE.db (de_tup (da_cons (de_var 1) da_nil))))) dbs_nil)))) dbs_nil))))
theorem G_with_plot {fd : FuncData} (Fu : Fun K "with_plot" "with_plot" st_with_plot a fd) (hm : mg "with_plot" = some (.ref a)) (hb : L2.Binds K fd ["layout", "plot"] []) (B : Bl mg) (Ex : EX P w K mg base) : FnG P w K mg base "with_plot" (k + 4) none 2 (runB (W_with_plot) none 0) :=
  fnG_mk Fu hm hb S_with_plot rfl fun _ _ _ _ _ _ _ hr => B_with_plot B Ex hr
/-! without_plot -/
def st_without_plot : Stmt := top 16
def N_without_plot : List Str := ["layout", "start", "plot"]
def W_without_plot : SM :=
  (sRet (eCall tupleM (aCons (eFrz (eComp (eItems (eVar 0)) (gN 2) (eT (eBin neM (eBin ixM (eVar 2) (eC (.int 0))) (eVar 1))) (eVar 2) [2])) aNil)))
theorem S_without_plot : FnScope N_without_plot ["layout", "start"] (defScope st_without_plot) := ⟨rfl, rfl, rfl, by decide +kernel, rfl, by decide +kernel, by decide +kernel⟩
theorem B_without_plot (B : Bl mg) (Ex : EX P w K mg base) (hr : Room (k + 3) (A.deeper (envOfC "without_plot" (defScope st_without_plot) sh.heap.objs.size a cdv))) :
    DSs (cxOf (L2.CX P w) P w K mg base N_without_plot "without_plot" (defScope st_without_plot) a cdv A outer sh H E) wd (fun _ => E) (defBody st_without_plot) (W_without_plot) := by
  have nd : (N_without_plot).Nodup := S_without_plot.nd
  have hu := Room.u65 hr
  unfold W_without_plot
  exact (dss_one (ds_ret (de_blt (b_tuple B.tuple) rfl (dbs_cons (DE.db (DF.de (df_comp (own := [("plot", 2)]) rfl nd (di_seq (DE.db (de_var 0))) (blkOk_by (by kernel_rfl)) (by decide) (fun _ _ _ _ _ => (dg_name 2 nd)) (fun _ _ _ _ _ => (dts_one (dt_c (c_ne hu) (DE.db (de_ix (DE.db (de_var 2)) (DE.db de_int))) (DE.db (de_var 1))))) (fun _ _ _ _ _ => (de_var 2))))) dbs_nil))))
theorem G_without_plot {fd : FuncData} (Fu : Fun K "without_plot" "without_plot" st_without_plot a fd) (hm : mg "without_plot" = some (.ref a)) (hb : L2.Binds K fd ["layout", "start"] []) (B : Bl mg) (Ex : EX P w K mg base) : FnG P w K mg base "without_plot" (k + 4) none 2 (runB (W_without_plot) none 1) :=
  fnG_mk Fu hm hb S_without_plot rfl fun _ _ _ _ _ _ _ hr => B_without_plot B Ex hr
/-! end_of -/
def st_end_of : Stmt := top 11
def N_end_of : List Str := ["plot"]
def W_end_of : SM :=
  (sRet (eBin addM (eBin ixM (eVar 0) (eC (.int 0))) (eBin ixM (eVar 0) (eC (.int 1)))))
theorem S_end_of : FnScope N_end_of ["plot"] (defScope st_end_of) := ⟨rfl, rfl, rfl, by decide +kernel, rfl, by decide +kernel, by decide +kernel⟩
theorem B_end_of (B : Bl mg) (Ex : EX P w K mg base) (hr : Room (k + 3) (A.deeper (envOfC "end_of" (defScope st_end_of) sh.heap.objs.size a cdv))) :
    DSs (cxOf (L2.CX P w) P w K mg base N_end_of "end_of" (defScope st_end_of) a cdv A outer sh H E) wd (fun _ => E) (defBody st_end_of) (W_end_of) := by
  have nd : (N_end_of).Nodup := S_end_of.nd
  have hu := Room.u65 hr
  unfold W_end_of
  exact (dss_one (ds_ret (de_add (DE.db (de_ix (DE.db (de_var 0)) (DE.db de_int))) (DE.db (de_ix (DE.db (de_var 0)) (DE.db de_int))))))
theorem G_end_of {fd : FuncData} (Fu : Fun K "end_of" "end_of" st_end_of a fd) (hm : mg "end_of" = some (.ref a)) (hb : L2.Binds K fd ["plot"] []) (B : Bl mg) (Ex : EX P w K mg base) : FnG P w K mg base "end_of" (k + 4) none 1 (runB (W_end_of) none 0) :=
  fnG_mk Fu hm hb S_end_of rfl fun _ _ _ _ _ _ _ hr => B_end_of B Ex hr
/-! top_of -/
def st_top_of : Stmt := top 12
def N_top_of : List Str := ["layout"]
def W_top_of (F_end_of : List D → EM RV) : SM :=
  (sRet (eIf (eT (eBin gtM (eCall lenM (aCons (eVar 0) aNil)) (eC (.int 0)))) (eVal (eCall F_end_of (aCons (eBin ixM (eVar 0) (eUn negM (eC (.int 1)))) aNil))) (eC (.int 0))))
theorem S_top_of : FnScope N_top_of ["layout"] (defScope st_top_of) := ⟨rfl, rfl, rfl, by decide +kernel, rfl, by decide +kernel, by decide +kernel⟩
theorem B_top_of (B : Bl mg) (Ex : EX P w K mg base) {F_end_of : List D → EM RV} (H_end_of : FnG P w K mg base "end_of" (k + 3) none 1 F_end_of) (hr : Room (k + 3) (A.deeper (envOfC "top_of" (defScope st_top_of) sh.heap.objs.size a cdv))) :
    DSs (cxOf (L2.CX P w) P w K mg base N_top_of "top_of" (defScope st_top_of) a cdv A outer sh H E) wd (fun _ => E) (defBody st_top_of) (W_top_of F_end_of) := by
  have nd : (N_top_of).Nodup := S_top_of.nd
  have hu := Room.u65 hr
  unfold W_top_of
  exact (dss_one (ds_ret (de_if (dt_c c_gt (DE.db (de_blt (b_len B.len) rfl (dbs_cons (DE.db (de_var 0)) dbs_nil))) (DE.db de_int)) (DR.de (dr_call H_end_of hr rfl hxF (dar_cons (de_ix (DE.db (de_var 0)) (DE.db (de_neg de_int))) dar_nil))) de_int)))
theorem G_top_of {fd : FuncData} (Fu : Fun K "top_of" "top_of" st_top_of a fd) (hm : mg "top_of" = some (.ref a)) (hb : L2.Binds K fd ["layout"] []) (B : Bl mg) (Ex : EX P w K mg base) {F_end_of : List D → EM RV} (H_end_of : FnG P w K mg base "end_of" (k + 3) none 1 F_end_of) : FnG P w K mg base "top_of" (k + 4) none 1 (runB (W_top_of F_end_of) none 0) :=
  fnG_mk Fu hm hb S_top_of rfl fun _ _ _ _ _ _ _ hr => B_top_of B Ex H_end_of hr
/-! chosen_gap -/
def st_chosen_gap : Stmt := top 23
def N_chosen_gap : List Str := ["rule", "fits", "start", "length", "lengths", "goal"]
def W_chosen_gap : SM :=
  (sSeq (sIf (eT (eBin eqM (eVar 0) (eC (.str "first")))) (sRet (eBin ixM (eVar 1) (eC (.int 0)))) sNop) (sSeq (sIf (eT (eBin eqM (eVar 0) (eC (.str "last")))) (sRet (eBin ixM (eVar 1) (eUn negM (eC (.int 1))))) sNop) (sSeq (sSet 4 (eFrz (eComp (eItems (eVar 1)) (gT 2 (gCons_ (gN 2) (gCons_ (gN 3) gNil_))) tYes_ (eVar 3) [2, 3]))) (sSeq (sSet 5 (eIf (eT (eBin eqM (eVar 0) (eC (.str "best")))) (eCall minM (aCons (eVar 4) aNil)) (eCall maxXM (aCons (eVar 4) aNil)))) (sRet (eBin ixM (eVar 1) (eIdx (eVar 4) (eVar 5))))))))
theorem S_chosen_gap : FnScope N_chosen_gap ["rule", "fits"] (defScope st_chosen_gap) := ⟨rfl, rfl, rfl, by decide +kernel, rfl, by decide +kernel, by decide +kernel⟩
theorem B_chosen_gap (B : Bl mg) (Ex : EX P w K mg base) (hr : Room (k + 3) (A.deeper (envOfC "chosen_gap" (defScope st_chosen_gap) sh.heap.objs.size a cdv))) :
    DSs (cxOf (L2.CX P w) P w K mg base N_chosen_gap "chosen_gap" (defScope st_chosen_gap) a cdv A outer sh H E) wd (fun _ => E) (defBody st_chosen_gap) (W_chosen_gap) := by
  have nd : (N_chosen_gap).Nodup := S_chosen_gap.nd
  have hu := Room.u65 hr
  unfold W_chosen_gap
  exact (dss_cons (ds_if (dt_c (c_eq hu) (DE.db (de_var 0)) (DE.db de_str)) (dss_one (ds_ret (de_ix (DE.db (de_var 1)) (DE.db de_int)))) dss_nil) (dss_cons (ds_if (dt_c (c_eq hu) (DE.db (de_var 0)) (DE.db de_str)) (dss_one (ds_ret (de_ix (DE.db (de_var 1)) (DE.db (de_neg de_int))))) dss_nil) (dss_cons (ds_setC 4 (own := [("start", 2), ("length", 3)]) rfl nd (di_seq (DE.db (de_var 1))) (blkOk_by (by kernel_rfl)) (by decide) (fun _ _ _ _ _ => (dg_tup rfl (dgs_cons (dg_name 2 nd) (dgs_cons (dg_name 3 nd) dgs_nil)))) (fun _ _ _ _ _ => dts_nil) (fun _ _ _ _ _ => (de_var 3))) (dss_cons (ds_set 5 nd (de_if (dt_c (c_eq hu) (DE.db (de_var 0)) (DE.db de_str)) (de_blt (b_min B.min rfl) rfl (dbs_cons (DE.db (de_var 4)) dbs_nil)) (de_blt (b_maxX B.max rfl hu) rfl (dbs_cons (DE.db (de_var 4)) dbs_nil)))) (dss_one (ds_ret (de_ix (DE.db (de_var 1)) (DE.db (de_index hu (DE.db (de_var 4)) (DE.db (de_var 5)))))))))))
theorem G_chosen_gap {fd : FuncData} (Fu : Fun K "chosen_gap" "chosen_gap" st_chosen_gap a fd) (hm : mg "chosen_gap" = some (.ref a)) (hb : L2.Binds K fd ["rule", "fits"] []) (B : Bl mg) (Ex : EX P w K mg base) : FnG P w K mg base "chosen_gap" (k + 4) none 2 (runB (W_chosen_gap) none 4) :=
  fnG_mk Fu hm hb S_chosen_gap rfl fun _ _ _ _ _ _ _ hr => B_chosen_gap B Ex hr
/-! stride_of -/
def st_stride_of : Stmt := top 21
def N_stride_of : List Str := ["length", "found"]
def W_stride_of (fuel : Nat) : SM :=
  (sSeq (sSet 1 (eC (.int 1))) (sSeq (sWhile (fun _ => fuel) (eT (eBin ltM (eVar 1) (eVar 0))) (sSet 1 (eBin mulM (eC (.int 2)) (eVar 1)))) (sRet (eVar 1))))
theorem S_stride_of : FnScope N_stride_of ["length"] (defScope st_stride_of) := ⟨rfl, rfl, rfl, by decide +kernel, rfl, by decide +kernel, by decide +kernel⟩
theorem B_stride_of (B : Bl mg) (Ex : EX P w K mg base) (fuel : Nat) (hr : Room (k + 3) (A.deeper (envOfC "stride_of" (defScope st_stride_of) sh.heap.objs.size a cdv))) :
    DSs (cxOf (L2.CX P w) P w K mg base N_stride_of "stride_of" (defScope st_stride_of) a cdv A outer sh H E) wd (fun _ => E) (defBody st_stride_of) (W_stride_of fuel) := by
  have nd : (N_stride_of).Nodup := S_stride_of.nd
  have hu := Room.u65 hr
  unfold W_stride_of
  exact (dss_cons (ds_set 1 nd de_int) (dss_cons (ds_while (fun _ => fuel) (poF) (dt_c c_lt (DE.db (de_var 1)) (DE.db (de_var 0))) (dss_one (ds_set 1 nd (de_mul (DE.db de_int) (DE.db (de_var 1)))))) (dss_one (ds_ret (de_var 1)))))
theorem G_stride_of {fd : FuncData} (Fu : Fun K "stride_of" "stride_of" st_stride_of a fd) (hm : mg "stride_of" = some (.ref a)) (hb : L2.Binds K fd ["length"] []) (B : Bl mg) (Ex : EX P w K mg base) (fuel : Nat) : FnG P w K mg base "stride_of" (k + 4) none 1 (runB (W_stride_of fuel) none 1) :=
  fnG_mk Fu hm hb S_stride_of rfl fun _ _ _ _ _ _ _ hr => B_stride_of B Ex fuel hr
/-! is_free -/
def st_is_free : Stmt := top 14
def N_is_free : List Str := ["layout", "start", "length", "plot"]
def W_is_free (F_end_of : List D → EM RV) : SM :=
  (sRet (eCall allM (aCons (eFrz (eComp (eItems (eVar 0)) (gN 3) tYes_ (eOr (eBin leM (eVal (eCall F_end_of (aCons (eVar 3) aNil))) (eVar 1)) (eBin leM (eBin addM (eVar 1) (eVar 2)) (eBin ixM (eVar 3) (eC (.int 0))))) [3])) aNil)))
theorem S_is_free : FnScope N_is_free ["layout", "start", "length"] (defScope st_is_free) := ⟨rfl, rfl, rfl, by decide +kernel, rfl, by decide +kernel, by decide +kernel⟩
theorem B_is_free (B : Bl mg) (Ex : EX P w K mg base) {F_end_of : List D → EM RV} (H_end_of : FnG P w K mg base "end_of" (k + 3) none 1 F_end_of) (hr : Room (k + 3) (A.deeper (envOfC "is_free" (defScope st_is_free) sh.heap.objs.size a cdv))) :
    DSs (cxOf (L2.CX P w) P w K mg base N_is_free "is_free" (defScope st_is_free) a cdv A outer sh H E) wd (fun _ => E) (defBody st_is_free) (W_is_free F_end_of) := by
  have nd : (N_is_free).Nodup := S_is_free.nd
  have hu := Room.u65 hr
  unfold W_is_free
  exact (dss_one (ds_ret (de_blt (b_all B.all rfl) rfl (dbs_cons (DE.db (DF.de (df_comp (own := [("plot", 3)]) rfl nd (di_seq (DE.db (de_var 0))) (blkOk_by (by kernel_rfl)) (by decide) (fun _ _ _ _ _ => (dg_name 3 nd)) (fun _ _ _ _ _ => dts_nil) (fun _ _ _ _ _ => (de_or (de_c c_le (DE.db (DR.de (dr_call H_end_of hr rfl hx0 (dar_cons (de_var 3) dar_nil)))) (DE.db (de_var 1))) (de_one (de_c c_le (DE.db (de_add (DE.db (de_var 1)) (DE.db (de_var 2)))) (DE.db (de_ix (DE.db (de_var 3)) (DE.db de_int)))))))))) dbs_nil))))
theorem G_is_free {fd : FuncData} (Fu : Fun K "is_free" "is_free" st_is_free a fd) (hm : mg "is_free" = some (.ref a)) (hb : L2.Binds K fd ["layout", "start", "length"] []) (B : Bl mg) (Ex : EX P w K mg base) {F_end_of : List D → EM RV} (H_end_of : FnG P w K mg base "end_of" (k + 3) none 1 F_end_of) : FnG P w K mg base "is_free" (k + 4) none 3 (runB (W_is_free F_end_of) none 1) :=
  fnG_mk Fu hm hb S_is_free rfl fun _ _ _ _ _ _ _ hr => B_is_free B Ex H_end_of hr
/-! even_start -/
def st_even_start : Stmt := top 22
def N_even_start : List Str := ["layout", "length", "stride", "found"]
def W_even_start (fuel : Nat) (F_stride_of : List D → EM RV) (F_is_free : List D → EM RV) : SM :=
  (sSeq (sSet 2 (eVal (eCall F_stride_of (aCons (eVar 1) aNil)))) (sSeq (sSet 3 (eC (.int 0))) (sSeq (sWhile (fun _ => fuel) (tNot_ (eT (eVal (eCall F_is_free (aCons (eVar 0) (aCons (eVar 3) (aCons (eVar 1) aNil))))))) (sAug 3 (fun i j => i + j) (eVar 2))) (sRet (eVar 3)))))
theorem S_even_start : FnScope N_even_start ["layout", "length"] (defScope st_even_start) := ⟨rfl, rfl, rfl, by decide +kernel, rfl, by decide +kernel, by decide +kernel⟩
theorem B_even_start (B : Bl mg) (Ex : EX P w K mg base) (fuel : Nat) {F_stride_of : List D → EM RV} (H_stride_of : FnG P w K mg base "stride_of" (k + 3) none 1 F_stride_of) {F_is_free : List D → EM RV} (H_is_free : FnG P w K mg base "is_free" (k + 3) none 3 F_is_free) (hr : Room (k + 3) (A.deeper (envOfC "even_start" (defScope st_even_start) sh.heap.objs.size a cdv))) :
    DSs (cxOf (L2.CX P w) P w K mg base N_even_start "even_start" (defScope st_even_start) a cdv A outer sh H E) wd (fun _ => E) (defBody st_even_start) (W_even_start fuel F_stride_of F_is_free) := by
  have nd : (N_even_start).Nodup := S_even_start.nd
  have hu := Room.u65 hr
  unfold W_even_start
  exact (dss_cons (ds_set 2 nd (DR.de (dr_call H_stride_of hr rfl hxF (dar_cons (de_var 1) dar_nil)))) (dss_cons (ds_set 3 nd de_int) (dss_cons (ds_while (fun _ => fuel) (poF) (dt_not (dt_val (DR.de (dr_call H_is_free hr rfl hxF (dar_cons (de_var 0) (dar_cons (de_var 3) (dar_cons (de_var 1) dar_nil))))))) (dss_one (ds_aug 3 nd (de_var 2) ip_add))) (dss_one (ds_ret (de_var 3))))))
theorem G_even_start {fd : FuncData} (Fu : Fun K "even_start" "even_start" st_even_start a fd) (hm : mg "even_start" = some (.ref a)) (hb : L2.Binds K fd ["layout", "length"] []) (B : Bl mg) (Ex : EX P w K mg base) (fuel : Nat) {F_stride_of : List D → EM RV} (H_stride_of : FnG P w K mg base "stride_of" (k + 3) none 1 F_stride_of) {F_is_free : List D → EM RV} (H_is_free : FnG P w K mg base "is_free" (k + 3) none 3 F_is_free) : FnG P w K mg base "even_start" (k + 4) none 2 (runB (W_even_start fuel F_stride_of F_is_free) none 2) :=
  fnG_mk Fu hm hb S_even_start rfl fun _ _ _ _ _ _ _ hr => B_even_start B Ex fuel H_stride_of H_is_free hr
/-! gaps_below -/
def st_gaps_below : Stmt := top 13
def N_gaps_below : List Str := ["layout", "found", "last", "start", "length"]
def W_gaps_below : SM :=
  (sSeq (sSetF 1 (eLst aNil)) (sSeq (sSet 2 (eC (.int 0))) (sSeq (sFor (eItems (eVar 0)) (gT 2 (gCons_ (gN 3) (gCons_ (gN 4) gNil_))) (sSeq (sIf (eT (eBin gtM (eVar 3) (eVar 2))) (sMut 1 (eTup (aCons (eVar 2) (aCons (eBin subM (eVar 3) (eVar 2)) aNil))) apF) sNop) (sSet 2 (eBin addM (eVar 3) (eVar 4))))) (sRetO 1))))
theorem S_gaps_below : FnScope N_gaps_below ["layout"] (defScope st_gaps_below) := ⟨rfl, rfl, rfl, by decide +kernel, rfl, by decide +kernel, by decide +kernel⟩
theorem B_gaps_below (B : Bl mg) (Ex : EX P w K mg base) (hr : Room (k + 3) (A.deeper (envOfC "gaps_below" (defScope st_gaps_below) sh.heap.objs.size a cdv))) :
    DSs (cxOf (L2.CX P w) P w K mg base N_gaps_below "gaps_below" (defScope st_gaps_below) a cdv A outer sh H E) wd (fun _ => E) (defBody st_gaps_below) (W_gaps_below) := by
  have nd : (N_gaps_below).Nodup := S_gaps_below.nd
  have hu := Room.u65 hr
  unfold W_gaps_below
  exact (dss_cons (ds_setF 1 nd (df_lst da_nil)) (dss_cons (ds_set 2 nd de_int) (dss_cons (ds_for (poF) rfl (dis_seq (de_var 0)) (dg_tup rfl (dgs_cons (dg_name 3 nd) (dgs_cons (dg_name 4 nd) dgs_nil))) (dss_cons (ds_if (dt_c c_gt (DE.db (de_var 3)) (DE.db (de_var 2))) (dss_one (ds_append 1 (de_tup (da_cons (de_var 2) (da_cons (de_sub (DE.db (de_var 3)) (DE.db (de_var 2))) da_nil))))) dss_nil) (dss_one (ds_set 2 nd (de_add (DE.db (de_var 3)) (DE.db (de_var 4))))))) (dss_one (ds_retO 1)))))
theorem G_gaps_below {fd : FuncData} (Fu : Fun K "gaps_below" "gaps_below" st_gaps_below a fd) (hm : mg "gaps_below" = some (.ref a)) (hb : L2.Binds K fd ["layout"] []) (B : Bl mg) (Ex : EX P w K mg base) : FnG P w K mg base "gaps_below" (k + 4) none 1 (runB (W_gaps_below) none 4) :=
  fnG_mk Fu hm hb S_gaps_below rfl fun _ _ _ _ _ _ _ hr => B_gaps_below B Ex hr
/-! place_for -/
def st_place_for : Stmt := top 24
def N_place_for : List Str := ["rule", "layout", "length", "gap", "fits", "start", "many"]
def W_place_for (F_even_start : List D → EM RV) (F_gaps_below : List D → EM RV) (F_top_of : List D → EM RV) (F_chosen_gap : List D → EM RV) : SM :=
  (sSeq (sIf (eT (eBin eqM (eVar 0) (eC (.str "even")))) (sRetR (eCall F_even_start (aCons (eVar 1) (aCons (eVar 2) aNil)))) sNop) (sSeq (sSet 4 (eFrz (eComp (eItems (eVal (eCall F_gaps_below (aCons (eVar 1) aNil)))) (gN 3) (eT (eBin geM (eBin ixM (eVar 3) (eC (.int 1))) (eVar 2))) (eVar 3) [3]))) (sSeq (sIf (eT (eBin eqM (eCall lenM (aCons (eVar 4) aNil)) (eC (.int 0)))) (sRetR (eCall F_top_of (aCons (eVar 1) aNil))) sNop) (sSeq (sAsg (gT 2 (gCons_ (gN 5) (gCons_ (gN 6) gNil_))) (eVal (eCall F_chosen_gap (aCons (eVar 0) (aCons (eVar 4) aNil))))) (sRet (eIf (eT (eBin eqM (eVar 0) (eC (.str "last")))) (eBin subM (eBin addM (eVar 5) (eVar 6)) (eVar 2)) (eVar 5)))))))
theorem S_place_for : FnScope N_place_for ["rule", "layout", "length"] (defScope st_place_for) := ⟨rfl, rfl, rfl, by decide +kernel, rfl, by decide +kernel, by decide +kernel⟩
theorem B_place_for (B : Bl mg) (Ex : EX P w K mg base) {F_even_start : List D → EM RV} (H_even_start : FnG P w K mg base "even_start" (k + 3) none 2 F_even_start) {F_gaps_below : List D → EM RV} (H_gaps_below : FnG P w K mg base "gaps_below" (k + 3) none 1 F_gaps_below) {F_top_of : List D → EM RV} (H_top_of : FnG P w K mg base "top_of" (k + 3) none 1 F_top_of) {F_chosen_gap : List D → EM RV} (H_chosen_gap : FnG P w K mg base "chosen_gap" (k + 3) none 2 F_chosen_gap) (hr : Room (k + 3) (A.deeper (envOfC "place_for" (defScope st_place_for) sh.heap.objs.size a cdv))) :
    DSs (cxOf (L2.CX P w) P w K mg base N_place_for "place_for" (defScope st_place_for) a cdv A outer sh H E) wd (fun _ => E) (defBody st_place_for) (W_place_for F_even_start F_gaps_below F_top_of F_chosen_gap) := by
  have nd : (N_place_for).Nodup := S_place_for.nd
  have hu := Room.u65 hr
  unfold W_place_for
  exact (dss_cons (ds_if (dt_c (c_eq hu) (DE.db (de_var 0)) (DE.db de_str)) (dss_one (ds_retR (dr_call H_even_start hr rfl hxF (dar_cons (de_var 1) (dar_cons (de_var 2) dar_nil))))) dss_nil) (dss_cons (ds_setC 4 (own := [("gap", 3)]) rfl nd (di_seq (DE.db (DR.de (dr_call H_gaps_below hr rfl hxF (dar_cons (de_var 1) dar_nil))))) (blkOk_by (by kernel_rfl)) (by decide) (fun _ _ _ _ _ => (dg_name 3 nd)) (fun _ _ _ _ _ => (dts_one (dt_c c_ge (DE.db (de_ix (DE.db (de_var 3)) (DE.db de_int))) (DE.db (de_var 2))))) (fun _ _ _ _ _ => (de_var 3))) (dss_cons (ds_if (dt_c (c_eq hu) (DE.db (de_blt (b_len B.len) rfl (dbs_cons (DE.db (de_var 4)) dbs_nil))) (DE.db de_int)) (dss_one (ds_retR (dr_call H_top_of hr rfl hxF (dar_cons (de_var 1) dar_nil)))) dss_nil) (dss_cons (ds_asg (DR.de (dr_call H_chosen_gap hr rfl hxF (dar_cons (de_var 0) (dar_cons (de_var 4) dar_nil)))) (dg_tup rfl (dgs_cons (dg_name 5 nd) (dgs_cons (dg_name 6 nd) dgs_nil)))) (dss_one (ds_ret (de_if (dt_c (c_eq hu) (DE.db (de_var 0)) (DE.db de_str)) (de_sub (DE.db (de_add (DE.db (de_var 5)) (DE.db (de_var 6)))) (DE.db (de_var 2))) (de_var 5))))))))
theorem G_place_for {fd : FuncData} (Fu : Fun K "place_for" "place_for" st_place_for a fd) (hm : mg "place_for" = some (.ref a)) (hb : L2.Binds K fd ["rule", "layout", "length"] []) (B : Bl mg) (Ex : EX P w K mg base) {F_even_start : List D → EM RV} (H_even_start : FnG P w K mg base "even_start" (k + 3) none 2 F_even_start) {F_gaps_below : List D → EM RV} (H_gaps_below : FnG P w K mg base "gaps_below" (k + 3) none 1 F_gaps_below) {F_top_of : List D → EM RV} (H_top_of : FnG P w K mg base "top_of" (k + 3) none 1 F_top_of) {F_chosen_gap : List D → EM RV} (H_chosen_gap : FnG P w K mg base "chosen_gap" (k + 3) none 2 F_chosen_gap) : FnG P w K mg base "place_for" (k + 4) none 3 (runB (W_place_for F_even_start F_gaps_below F_top_of F_chosen_gap) none 4) :=
  fnG_mk Fu hm hb S_place_for rfl fun _ _ _ _ _ _ _ hr => B_place_for B Ex H_even_start H_gaps_below H_top_of H_chosen_gap hr
/-! tops_of -/
def st_tops_of : Stmt := top 31
def N_tops_of : List Str := ["rule", "program", "layout", "starts", "found", "kind", "number"]
def W_tops_of (F_place_for : List D → EM RV) (F_with_plot : List D → EM RV) (F_without_plot : List D → EM RV) (F_top_of : List D → EM RV) : SM :=
  (sSeq (sSet 2 (eTup aNil)) (sSeq (sSetF 3 (eLst aNil)) (sSeq (sSetF 4 (eLst (aCons (eC (.int 0)) aNil))) (sSeq (sFor (eItems (eVar 1)) (gT 2 (gCons_ (gN 5) (gCons_ (gN 6) gNil_))) (sSeq (sIf (eT (eBin eqM (eVar 5) (eC (.str "ask")))) (sSeq (sMut 3 (eVal (eCall F_place_for (aCons (eVar 0) (aCons (eVar 2) (aCons (eVar 6) aNil))))) apF) (sSet 2 (eVal (eCall F_with_plot (aCons (eVar 2) (aCons (eTup (aCons (eBin ixM (eVarB 3) (eUn negM (eC (.int 1)))) (aCons (eVar 6) aNil))) aNil)))))) (sSet 2 (eVal (eCall F_without_plot (aCons (eVar 2) (aCons (eBin ixM (eVarB 3) (eVar 6)) aNil)))))) (sMut 4 (eVal (eCall F_top_of (aCons (eVar 2) aNil))) apF))) (sRetO 4)))))
theorem S_tops_of : FnScope N_tops_of ["rule", "program"] (defScope st_tops_of) := ⟨rfl, rfl, rfl, by decide +kernel, rfl, by decide +kernel, by decide +kernel⟩
theorem B_tops_of (B : Bl mg) (Ex : EX P w K mg base) {F_place_for : List D → EM RV} (H_place_for : FnG P w K mg base "place_for" (k + 3) none 3 F_place_for) {F_with_plot : List D → EM RV} (H_with_plot : FnG P w K mg base "with_plot" (k + 3) none 2 F_with_plot) {F_without_plot : List D → EM RV} (H_without_plot : FnG P w K mg base "without_plot" (k + 3) none 2 F_without_plot) {F_top_of : List D → EM RV} (H_top_of : FnG P w K mg base "top_of" (k + 3) none 1 F_top_of) (hr : Room (k + 3) (A.deeper (envOfC "tops_of" (defScope st_tops_of) sh.heap.objs.size a cdv))) :
    DSs (cxOf (L2.CX P w) P w K mg base N_tops_of "tops_of" (defScope st_tops_of) a cdv A outer sh H E) wd (fun _ => E) (defBody st_tops_of) (W_tops_of F_place_for F_with_plot F_without_plot F_top_of) := by
  have nd : (N_tops_of).Nodup := S_tops_of.nd
  have hu := Room.u65 hr
  unfold W_tops_of
  exact (dss_cons (ds_set 2 nd (de_tup da_nil)) (dss_cons (ds_setF 3 nd (df_lst da_nil)) (dss_cons (ds_setF 4 nd (df_lst (da_cons de_int da_nil))) (dss_cons (ds_for (poF) rfl (dis_seq (de_var 1)) (dg_tup rfl (dgs_cons (dg_name 5 nd) (dgs_cons (dg_name 6 nd) dgs_nil))) (dss_cons (ds_if (dt_c (c_eq hu) (DE.db (de_var 5)) (DE.db de_str)) (dss_cons (ds_append 3 (DR.de (dr_call H_place_for hr rfl hxF (dar_cons (de_var 0) (dar_cons (de_var 2) (dar_cons (de_var 6) dar_nil)))))) (dss_one (ds_set 2 nd (DR.de (dr_call H_with_plot hr rfl hxF (dar_cons (de_var 2) (dar_cons (de_tup (da_cons (de_ix (db_var 3) (DE.db (de_neg de_int))) (da_cons (de_var 6) da_nil))) dar_nil))))))) (dss_one (ds_set 2 nd (DR.de (dr_call H_without_plot hr rfl hxF (dar_cons (de_var 2) (dar_cons (de_ix (db_var 3) (DE.db (de_var 6))) dar_nil))))))) (dss_one (ds_append 4 (DR.de (dr_call H_top_of hr rfl hxF (dar_cons (de_var 2) dar_nil))))))) (dss_one (ds_retO 4))))))
theorem G_tops_of {fd : FuncData} (Fu : Fun K "tops_of" "tops_of" st_tops_of a fd) (hm : mg "tops_of" = some (.ref a)) (hb : L2.Binds K fd ["rule", "program"] []) (B : Bl mg) (Ex : EX P w K mg base) {F_place_for : List D → EM RV} (H_place_for : FnG P w K mg base "place_for" (k + 3) none 3 F_place_for) {F_with_plot : List D → EM RV} (H_with_plot : FnG P w K mg base "with_plot" (k + 3) none 2 F_with_plot) {F_without_plot : List D → EM RV} (H_without_plot : FnG P w K mg base "without_plot" (k + 3) none 2 F_without_plot) {F_top_of : List D → EM RV} (H_top_of : FnG P w K mg base "top_of" (k + 3) none 1 F_top_of) : FnG P w K mg base "tops_of" (k + 4) none 2 (runB (W_tops_of F_place_for F_with_plot F_without_plot F_top_of) none 5) :=
  fnG_mk Fu hm hb S_tops_of rfl fun _ _ _ _ _ _ _ hr => B_tops_of B Ex H_place_for H_with_plot H_without_plot H_top_of hr
/-! is_core -/
def st_is_core : Stmt := top 36
def N_is_core : List Str := ["rule", "field", "program", "value", "gone", "at", "own"]
def W_is_core (F_is_rule : List D → EM RV) (F_is_number : List D → EM RV) (F_is_program : List D → EM RV) (F_tops_of : List D → EM RV) (F_kept_steps : List D → EM RV) : SM :=
  (sSeq (sIf (tOr_ (tNot_ (eT (eVal (eCall F_is_rule (aCons (eVar 0) aNil))))) (tOr_ (tNot_ (eT (eVal (eCall F_is_number (aCons (eVar 1) (aCons (eC (.int 0)) (aCons (eC c_MOST_FIELD) aNil))))))) (tOr_ (tNot_ (eT (eVal (eCall F_is_program (aCons (eVar 2) aNil))))) (tNot_ (eT (eVal (eCall F_is_program (aCons (eVar 3) aNil)))))))) (sRet (eC (.bl false))) sNop) (sSeq (sIf (tOr_ (eT (eBin leM (eCall maxM (aCons (eVal (eCall F_tops_of (aCons (eVar 0) (aCons (eVar 2) aNil)))) aNil)) (eVar 1))) (eT (eBin leM (eCall maxM (aCons (eVal (eCall F_tops_of (aCons (eVar 0) (aCons (eVar 3) aNil)))) aNil)) (eVar 1)))) (sRet (eC (.bl false))) sNop) (sSeq (sFor (eCall rng1M (aCons (eCall lenM (aCons (eVar 3) aNil)) aNil)) (gN 4) (sSeq (sSet 6 (eVal (eCall F_kept_steps (aCons (eVar 3) (aCons (eFrz (eComp (eCall rng1M (aCons (eCall lenM (aCons (eVar 3) aNil)) aNil)) (gN 5) (eT (eBin neM (eVar 5) (eVar 4))) (eVar 5) [5])) aNil))))) (sIf (tAnd_ (eT (eBin (isM true) (eVar 6) (eC .non))) (eT (eBin gtM (eCall maxM (aCons (eVal (eCall F_tops_of (aCons (eVar 0) (aCons (eVar 6) aNil)))) aNil)) (eVar 1)))) (sRet (eC (.bl false))) sNop))) (sRet (eC (.bl true))))))
theorem S_is_core : FnScope N_is_core ["rule", "field", "program", "value"] (defScope st_is_core) := ⟨rfl, rfl, rfl, by decide +kernel, rfl, by decide +kernel, by decide +kernel⟩
theorem B_is_core (B : Bl mg) (Ex : EX P w K mg base) {F_is_rule : List D → EM RV} (H_is_rule : FnG P w K mg base "is_rule" (k + 3) none 1 F_is_rule) {F_is_number : List D → EM RV} (H_is_number : FnG P w K mg base "is_number" (k + 3) none 3 F_is_number) {F_is_program : List D → EM RV} (H_is_program : FnG P w K mg base "is_program" (k + 3) none 1 F_is_program) {F_tops_of : List D → EM RV} (H_tops_of : FnG P w K mg base "tops_of" (k + 3) none 2 F_tops_of) {F_kept_steps : List D → EM RV} (H_kept_steps : FnG P w K mg base "kept_steps" (k + 3) none 2 F_kept_steps) (hr : Room (k + 3) (A.deeper (envOfC "is_core" (defScope st_is_core) sh.heap.objs.size a cdv))) :
    DSs (cxOf (L2.CX P w) P w K mg base N_is_core "is_core" (defScope st_is_core) a cdv A outer sh H E) wd (fun _ => E) (defBody st_is_core) (W_is_core F_is_rule F_is_number F_is_program F_tops_of F_kept_steps) := by
  have nd : (N_is_core).Nodup := S_is_core.nd
  have hu := Room.u65 hr
  unfold W_is_core
  exact (dss_cons (ds_if (DW.dt (dw_or (dt_not (dt_val (DR.de (dr_call H_is_rule hr rfl hxF (dar_cons (de_var 0) dar_nil))))) (dw_or (dt_not (dt_val (DR.de (dr_call H_is_number hr rfl hxF (dar_cons (de_var 1) (dar_cons de_int (dar_cons (de_gc Ex.h_MOST_FIELD rfl) dar_nil))))))) (dw_or (dt_not (dt_val (DR.de (dr_call H_is_program hr rfl hxF (dar_cons (de_var 2) dar_nil))))) (dw_or1 (dt_not (dt_val (DR.de (dr_call H_is_program hr rfl hxF (dar_cons (de_var 3) dar_nil)))))))))) (dss_one (ds_ret de_bl)) dss_nil) (dss_cons (ds_if (DW.dt (dw_or (dt_c c_le (DE.db (de_blt (b_max B.max rfl) rfl (dbs_cons (DE.db (DR.de (dr_call H_tops_of hr rfl hxF (dar_cons (de_var 0) (dar_cons (de_var 2) dar_nil))))) dbs_nil))) (DE.db (de_var 1))) (dw_or1 (dt_c c_le (DE.db (de_blt (b_max B.max rfl) rfl (dbs_cons (DE.db (DR.de (dr_call H_tops_of hr rfl hxF (dar_cons (de_var 0) (dar_cons (de_var 3) dar_nil))))) dbs_nil))) (DE.db (de_var 1)))))) (dss_one (ds_ret de_bl)) dss_nil) (dss_cons (ds_for (poF) rfl (dis_range1 B.range rfl (da_cons (de_blt (b_len B.len) rfl (dbs_cons (DE.db (de_var 3)) dbs_nil)) da_nil)) (dg_name 4 nd) (dss_cons (ds_set 6 nd (DR.de (dr_call H_kept_steps hr rfl hxF (dar_cons (de_var 3) (dar_cons (DF.de (df_comp (own := [("at", 5)]) rfl nd (DIS.di (dis_range1 B.range rfl (da_cons (de_blt (b_len B.len) rfl (dbs_cons (DE.db (de_var 3)) dbs_nil)) da_nil))) (blkOk_by (by kernel_rfl)) (by decide) (fun _ _ _ _ _ => (dg_name 5 nd)) (fun _ _ _ _ _ => (dts_one (dt_c (c_ne hu) (DE.db (de_var 5)) (DE.db (de_var 4))))) (fun _ _ _ _ _ => (de_var 5)))) dar_nil))))) (dss_one (ds_if (DW.dt (dw_and (dt_c c_isnot (DE.db (de_var 6)) (DE.db de_non)) (dw_and1 (dt_c c_gt (DE.db (de_blt (b_max B.max rfl) rfl (dbs_cons (DE.db (DR.de (dr_call H_tops_of hr rfl hxF (dar_cons (de_var 0) (dar_cons (de_var 6) dar_nil))))) dbs_nil))) (DE.db (de_var 1)))))) (dss_one (ds_ret de_bl)) dss_nil)))) (dss_one (ds_ret de_bl)))))
theorem G_is_core {fd : FuncData} (Fu : Fun K "is_core" "is_core" st_is_core a fd) (hm : mg "is_core" = some (.ref a)) (hb : L2.Binds K fd ["rule", "field", "program", "value"] []) (B : Bl mg) (Ex : EX P w K mg base) {F_is_rule : List D → EM RV} (H_is_rule : FnG P w K mg base "is_rule" (k + 3) none 1 F_is_rule) {F_is_number : List D → EM RV} (H_is_number : FnG P w K mg base "is_number" (k + 3) none 3 F_is_number) {F_is_program : List D → EM RV} (H_is_program : FnG P w K mg base "is_program" (k + 3) none 1 F_is_program) {F_tops_of : List D → EM RV} (H_tops_of : FnG P w K mg base "tops_of" (k + 3) none 2 F_tops_of) {F_kept_steps : List D → EM RV} (H_kept_steps : FnG P w K mg base "kept_steps" (k + 3) none 2 F_kept_steps) : FnG P w K mg base "is_core" (k + 4) none 4 (runB (W_is_core F_is_rule F_is_number F_is_program F_tops_of F_kept_steps) none 3) :=
  fnG_mk Fu hm hb S_is_core rfl fun _ _ _ _ _ _ _ hr => B_is_core B Ex H_is_rule H_is_number H_is_program H_tops_of H_kept_steps hr
/-! _law_rows -/
def st__law_rows : Stmt := top 44
def N__law_rows : List Str := ["items", "most", "found", "item", "row", "many"]
def W__law_rows : SM :=
  (sSeq (sSet 2 (eFrz (eLst (aCons (eTup aNil) aNil)))) (sSeq (sFor (eItems (eVar 0)) (gN 3) (sSet 2 (eBin addM (eVar 2) (eFrz (eComp (eItems (eVar 2)) (gN 4) (eT (eBin ltM (eCall lenM (aCons (eVar 4) aNil)) (eVar 1))) (eBin addM (eVar 4) (eTup (aCons (eVar 3) aNil))) [4]))))) (sRetF (eComp (eItems (eFrz (eCall sortXM (aCons (eFrz (eComp (eItems (eVar 2)) (gN 4) tYes_ (eTup (aCons (eCall lenM (aCons (eVar 4) aNil)) (aCons (eVar 4) aNil))) [4])) aNil)))) (gT 2 (gCons_ (gN 5) (gCons_ (gN 4) gNil_))) tYes_ (eVar 4) [5, 4]))))
theorem S__law_rows : FnScope N__law_rows ["items", "most"] (defScope st__law_rows) := ⟨rfl, rfl, rfl, by decide +kernel, rfl, by decide +kernel, by decide +kernel⟩
theorem B__law_rows (B : Bl mg) (Ex : EX P w K mg base) (hr : Room (k + 3) (A.deeper (envOfC "_law_rows" (defScope st__law_rows) sh.heap.objs.size a cdv))) :
    DSs (cxOf (L2.CX P w) P w K mg base N__law_rows "_law_rows" (defScope st__law_rows) a cdv A outer sh H E) wd (fun _ => E) (defBody st__law_rows) (W__law_rows) := by
  have nd : (N__law_rows).Nodup := S__law_rows.nd
  have hu := Room.u65 hr
  unfold W__law_rows
  exact (dss_cons (ds_set 2 nd (DF.de (df_lst (da_cons (de_tup da_nil) da_nil)))) (dss_cons (ds_for (poF) rfl (dis_seq (de_var 0)) (dg_name 3 nd) (dss_one (ds_set 2 nd (de_add (DE.db (de_var 2)) (DE.db (DF.de (df_comp (own := [("row", 4)]) rfl nd (di_seq (DE.db (de_var 2))) (blkOk_by (by kernel_rfl)) (by decide) (fun _ _ _ _ _ => (dg_name 4 nd)) (fun _ _ _ _ _ => (dts_one (dt_c c_lt (DE.db (de_blt (b_len B.len) rfl (dbs_cons (DE.db (de_var 4)) dbs_nil))) (DE.db (de_var 1))))) (fun _ _ _ _ _ => (de_add (DE.db (de_var 4)) (DE.db (de_tup (da_cons (de_var 3) da_nil)))))))))))) (dss_one (ds_retF (df_comp (own := [("many", 5), ("row", 4)]) rfl nd (di_seq (DE.db (DF.de (df_blt (b_sortedX B.sorted hu) rfl (dbs_cons (DE.db (DF.de (df_comp (own := [("row", 4)]) rfl nd (di_seq (DE.db (de_var 2))) (blkOk_by (by kernel_rfl)) (by decide) (fun _ _ _ _ _ => (dg_name 4 nd)) (fun _ _ _ _ _ => dts_nil) (fun _ _ _ _ _ => (de_tup (da_cons (de_blt (b_len B.len) rfl (dbs_cons (DE.db (de_var 4)) dbs_nil)) (da_cons (de_var 4) da_nil))))))) dbs_nil))))) (blkOk_by (by kernel_rfl)) (by decide) (fun _ _ _ _ _ => (dg_tup rfl (dgs_cons (dg_name 5 nd) (dgs_cons (dg_name 4 nd) dgs_nil)))) (fun _ _ _ _ _ => dts_nil) (fun _ _ _ _ _ => (de_var 4)))))))
theorem G__law_rows {fd : FuncData} (Fu : Fun K "_law_rows" "_law_rows" st__law_rows a fd) (hm : mg "_law_rows" = some (.ref a)) (hb : L2.Binds K fd ["items", "most"] []) (B : Bl mg) (Ex : EX P w K mg base) : FnG P w K mg base "_law_rows" (k + 4) none 2 (runB (W__law_rows) none 4) :=
  fnG_mk Fu hm hb S__law_rows rfl fun _ _ _ _ _ _ _ hr => B__law_rows B Ex hr
/-! _law_odd -/
def st__law_odd : Stmt := top 42
def N__law_odd : List Str := ["pot", "thing", "some"]
def W__law_odd (F__law_pick : List D → EM RV) : SM :=
  (sSeq (sIf (eT (eCall instM (aCons (eVar 1) (aCons (eC (.raw (.ty "int"))) aNil)))) (sRetR (eCall F__law_pick (aRoot 0 (aCons (eFrz (eLst (aCons (eBin addM (eVar 1) (eC (.int 1))) (aCons (eBin subM (eVar 1) (eC (.int 1))) (aCons (eC (.int 10)) (aCons (eUn negM (eC (.int 10))) (aCons (eC (.int 100)) (aCons (eC (.bl true)) (aCons (eC .non) (aCons (eCall strM (aCons (eVar 1) aNil)) (aCons (eTup (aCons (eVar 1) aNil)) aNil))))))))))) aNil)))) sNop) (sSeq (sIf (eT (eCall instM (aCons (eVar 1) (aCons (eC (.raw (.ty "str"))) aNil)))) (sRetR (eCall F__law_pick (aRoot 0 (aCons (eFrz (eLst (aCons (eBin addM (eVar 1) (eC (.str "a"))) (aCons (eSl (eVar 1) (oSome (eC (.int 1))) oNone) (aCons (eC (.str "")) (aCons (eC (.str "A")) (aCons (eC (.int 0)) (aCons (eC .non) (aCons (eTup (aCons (eVar 1) aNil)) (aCons (eFrz (eLst (aCons (eVar 1) aNil))) (aCons (eC (.str "abcdefghi")) aNil))))))))))) aNil)))) sNop) (sSeq (sIf (eT (eCall instM (aCons (eVar 1) (aCons (eC (.raw (.ty "tuple"))) aNil)))) (sSeq (sSet 2 (eFrz (eLst (aCons (eBin addM (eVar 1) (eSl (eVar 1) (oSome (eUn negM (eC (.int 1)))) oNone)) (aCons (eSl (eVar 1) (oSome (eC (.int 1))) oNone) (aCons (eFrz (eCall listM (aCons (eVar 1) aNil))) (aCons (eTup aNil) (aCons (eC .non) (aCons (eC (.int 3)) (aCons (eC (.str "x")) (aCons (eTup (aCons (eVar 1) aNil)) (aCons (eSl (eVar 1) oNone (oSome (eUn negM (eC (.int 1))))) (aCons (eBin addM (eVar 1) (eTup (aCons (eC (.int 1)) aNil))) aNil))))))))))))) (sRetR (eCall F__law_pick (aRoot 0 (aCons (eVar 2) aNil))))) sNop) (sRetR (eCall F__law_pick (aRoot 0 (aCons (eFrz (eLst (aCons (eC .non) (aCons (eC (.int 0)) (aCons (eC (.str "ab")) (aCons (eC (.dct [])) (aCons (eC (.bl true)) aNil))))))) aNil)))))))
theorem S__law_odd : FnScope N__law_odd ["pot", "thing"] (defScope st__law_odd) := ⟨rfl, rfl, rfl, by decide +kernel, rfl, by decide +kernel, by decide +kernel⟩
theorem B__law_odd (B : Bl mg) (Ex : EX P w K mg base) {F__law_pick : List D → EM RV} (H__law_pick : FnG P w K mg base "_law_pick" (k + 3) (some 0) 2 F__law_pick) (hr : Room (k + 3) (A.deeper (envOfC "_law_odd" (defScope st__law_odd) sh.heap.objs.size a cdv))) :
    DSs (cxOf (L2.CX P w) P w K mg base N__law_odd "_law_odd" (defScope st__law_odd) a cdv A outer sh H E) wd (fun _ => E) (defBody st__law_odd) (W__law_odd F__law_pick) := by
  have nd : (N__law_odd).Nodup := S__law_odd.nd
  have hu := Room.u65 hr
  unfold W__law_odd
  exact (dss_cons (ds_if (dt_val (de_blt (b_isinstance B.isinstance) rfl (dbs_cons (DE.db (de_var 1)) (dbs_cons (DE.db (de_ty rfl B.int (by decide +kernel))) dbs_nil)))) (dss_one (ds_retR (dr_call H__law_pick hr rfl hxF (dar_root 0 (dar_cons (DF.de (df_lst (da_cons (de_add (DE.db (de_var 1)) (DE.db de_int)) (da_cons (de_sub (DE.db (de_var 1)) (DE.db de_int)) (da_cons de_int (da_cons (de_neg de_int) (da_cons de_int (da_cons de_bl (da_cons de_non (da_cons (de_blt (b_str B.str) rfl (dbs_cons (DE.db (de_var 1)) dbs_nil)) (da_cons (de_tup (da_cons (de_var 1) da_nil)) da_nil))))))))))) dar_nil))))) dss_nil) (dss_cons (ds_if (dt_val (de_blt (b_isinstance B.isinstance) rfl (dbs_cons (DE.db (de_var 1)) (dbs_cons (DE.db (de_ty rfl B.str (by decide +kernel))) dbs_nil)))) (dss_one (ds_retR (dr_call H__law_pick hr rfl hxF (dar_root 0 (dar_cons (DF.de (df_lst (da_cons (de_add (DE.db (de_var 1)) (DE.db de_str)) (da_cons (de_sl (DE.db (de_var 1)) (do_some (DE.db de_int)) do_none) (da_cons de_str (da_cons de_str (da_cons de_int (da_cons de_non (da_cons (de_tup (da_cons (de_var 1) da_nil)) (da_cons (DF.de (df_lst (da_cons (de_var 1) da_nil))) (da_cons de_str da_nil))))))))))) dar_nil))))) dss_nil) (dss_cons (ds_if (dt_val (de_blt (b_isinstance B.isinstance) rfl (dbs_cons (DE.db (de_var 1)) (dbs_cons (DE.db (de_ty rfl B.tuple (by decide +kernel))) dbs_nil)))) (dss_cons (ds_set 2 nd (DF.de (df_lst (da_cons (de_add (DE.db (de_var 1)) (DE.db (de_sl (DE.db (de_var 1)) (do_some (DE.db (de_neg de_int))) do_none))) (da_cons (de_sl (DE.db (de_var 1)) (do_some (DE.db de_int)) do_none) (da_cons (DF.de (df_blt (b_list B.list) rfl (dbs_cons (DE.db (de_var 1)) dbs_nil))) (da_cons (de_tup da_nil) (da_cons de_non (da_cons de_int (da_cons de_str (da_cons (de_tup (da_cons (de_var 1) da_nil)) (da_cons (de_sl (DE.db (de_var 1)) do_none (do_some (DE.db (de_neg de_int)))) (da_cons (de_add (DE.db (de_var 1)) (DE.db (de_tup (da_cons de_int da_nil)))) da_nil))))))))))))) (dss_one (ds_retR (dr_call H__law_pick hr rfl hxF (dar_root 0 (dar_cons (de_var 2) dar_nil)))))) dss_nil) (dss_one (ds_retR (dr_call H__law_pick hr rfl hxF (dar_root 0 (dar_cons (DF.de (df_lst (da_cons de_non (da_cons de_int (da_cons de_str (da_cons de_dict0 (da_cons de_bl da_nil))))))) dar_nil))))))))
theorem G__law_odd {fd : FuncData} (Fu : Fun K "_law_odd" "_law_odd" st__law_odd a fd) (hm : mg "_law_odd" = some (.ref a)) (hb : L2.Binds K fd ["pot", "thing"] []) (B : Bl mg) (Ex : EX P w K mg base) {F__law_pick : List D → EM RV} (H__law_pick : FnG P w K mg base "_law_pick" (k + 3) (some 0) 2 F__law_pick) : FnG P w K mg base "_law_odd" (k + 4) (some 0) 2 (runB (W__law_odd F__law_pick) (some 0) 1) :=
  fnG_mk Fu hm hb S__law_odd rfl fun _ _ _ _ _ _ _ hr => B__law_odd B Ex H__law_pick hr
/-! _law_bent -/
def st__law_bent : Stmt := top 43
def N__law_bent : List Str := ["pot", "thing", "left", "at", "part"]
def W__law_bent (F__law_draw : List D → EM RV) (F__law_bent : List D → EM RV) (F__law_odd : List D → EM RV) : SM :=
  (sSeq (sIf (tAnd_ (eT (eCall instM (aCons (eVar 1) (aCons (eTup (aCons (eC (.raw (.ty "list"))) (aCons (eC (.raw (.ty "tuple"))) aNil))) aNil)))) (tAnd_ (eT (eBin gtM (eCall lenM (aCons (eVar 1) aNil)) (eC (.int 0)))) (tAnd_ (eT (eBin gtM (eVar 2) (eC (.int 0)))) (eT (eBin gtM (eVal (eCall F__law_draw (aRoot 0 (aCons (eC (.int 5)) aNil)))) (eC (.int 0))))))) (sSeq (sSet 3 (eVal (eCall F__law_draw (aRoot 0 (aCons (eCall lenM (aCons (eVar 1) aNil)) aNil))))) (sSeq (sSet 4 (eVal (eCall F__law_bent (aRoot 0 (aCons (eBin ixM (eVar 1) (eVar 3)) (aCons (eBin subM (eVar 2) (eC (.int 1))) aNil)))))) (sSeq (sIf (eT (eCall instM (aCons (eVar 1) (aCons (eC (.raw (.ty "list"))) aNil)))) (sRet (eBin addM (eBin addM (eSl (eVar 1) oNone (oSome (eVar 3))) (eFrz (eLst (aCons (eVar 4) aNil)))) (eSl (eVar 1) (oSome (eBin addM (eVar 3) (eC (.int 1)))) oNone))) sNop) (sRet (eBin addM (eBin addM (eSl (eVar 1) oNone (oSome (eVar 3))) (eTup (aCons (eVar 4) aNil))) (eSl (eVar 1) (oSome (eBin addM (eVar 3) (eC (.int 1)))) oNone)))))) sNop) (sRetR (eCall F__law_odd (aRoot 0 (aCons (eVar 1) aNil)))))
theorem S__law_bent : FnScope N__law_bent ["pot", "thing", "left"] (defScope st__law_bent) := ⟨rfl, rfl, rfl, by decide +kernel, rfl, by decide +kernel, by decide +kernel⟩
theorem B__law_bent (B : Bl mg) (Ex : EX P w K mg base) {F__law_draw : List D → EM RV} (H__law_draw : FnG P w K mg base "_law_draw" (k + 3) (some 0) 2 F__law_draw) {F__law_bent : List D → EM RV} (H__law_bent : FnG P w K mg base "_law_bent" (k + 3) (some 0) 3 F__law_bent) {F__law_odd : List D → EM RV} (H__law_odd : FnG P w K mg base "_law_odd" (k + 3) (some 0) 2 F__law_odd) (hr : Room (k + 3) (A.deeper (envOfC "_law_bent" (defScope st__law_bent) sh.heap.objs.size a cdv))) :
    DSs (cxOf (L2.CX P w) P w K mg base N__law_bent "_law_bent" (defScope st__law_bent) a cdv A outer sh H E) wd (fun _ => E) (defBody st__law_bent) (W__law_bent F__law_draw F__law_bent F__law_odd) := by
  have nd : (N__law_bent).Nodup := S__law_bent.nd
  have hu := Room.u65 hr
  unfold W__law_bent
  exact (dss_cons (ds_if (DW.dt (dw_and (dt_val (de_blt (b_isinstance B.isinstance) rfl (dbs_cons (DE.db (de_var 1)) (dbs_cons (DE.db (de_tup (da_cons (de_ty rfl B.list (by decide +kernel)) (da_cons (de_ty rfl B.tuple (by decide +kernel)) da_nil)))) dbs_nil)))) (dw_and (dt_c c_gt (DE.db (de_blt (b_len B.len) rfl (dbs_cons (DE.db (de_var 1)) dbs_nil))) (DE.db de_int)) (dw_and (dt_c c_gt (DE.db (de_var 2)) (DE.db de_int)) (dw_and1 (dt_c c_gt (DE.db (DR.de (dr_call H__law_draw hr rfl hxF (dar_root 0 (dar_cons de_int dar_nil))))) (DE.db de_int))))))) (dss_cons (ds_set 3 nd (DR.de (dr_call H__law_draw hr rfl hxF (dar_root 0 (dar_cons (de_blt (b_len B.len) rfl (dbs_cons (DE.db (de_var 1)) dbs_nil)) dar_nil))))) (dss_cons (ds_set 4 nd (DR.de (dr_call H__law_bent hr rfl hxF (dar_root 0 (dar_cons (de_ix (DE.db (de_var 1)) (DE.db (de_var 3))) (dar_cons (de_sub (DE.db (de_var 2)) (DE.db de_int)) dar_nil)))))) (dss_cons (ds_if (dt_val (de_blt (b_isinstance B.isinstance) rfl (dbs_cons (DE.db (de_var 1)) (dbs_cons (DE.db (de_ty rfl B.list (by decide +kernel))) dbs_nil)))) (dss_one (ds_ret (de_add (DE.db (de_add (DE.db (de_sl (DE.db (de_var 1)) do_none (do_some (DE.db (de_var 3))))) (DE.db (DF.de (df_lst (da_cons (de_var 4) da_nil)))))) (DE.db (de_sl (DE.db (de_var 1)) (do_some (DE.db (de_add (DE.db (de_var 3)) (DE.db de_int)))) do_none))))) dss_nil) (dss_one (ds_ret (de_add (DE.db (de_add (DE.db (de_sl (DE.db (de_var 1)) do_none (do_some (DE.db (de_var 3))))) (DE.db (de_tup (da_cons (de_var 4) da_nil))))) (DE.db (de_sl (DE.db (de_var 1)) (do_some (DE.db (de_add (DE.db (de_var 3)) (DE.db de_int)))) do_none)))))))) dss_nil) (dss_one (ds_retR (dr_call H__law_odd hr rfl hxF (dar_root 0 (dar_cons (de_var 1) dar_nil))))))
theorem G__law_bent {fd : FuncData} (Fu : Fun K "_law_bent" "_law_bent" st__law_bent a fd) (hm : mg "_law_bent" = some (.ref a)) (hb : L2.Binds K fd ["pot", "thing", "left"] []) (B : Bl mg) (Ex : EX P w K mg base) {F__law_draw : List D → EM RV} (H__law_draw : FnG P w K mg base "_law_draw" (k + 3) (some 0) 2 F__law_draw) {F__law_bent : List D → EM RV} (H__law_bent : FnG P w K mg base "_law_bent" (k + 3) (some 0) 3 F__law_bent) {F__law_odd : List D → EM RV} (H__law_odd : FnG P w K mg base "_law_odd" (k + 3) (some 0) 2 F__law_odd) : FnG P w K mg base "_law_bent" (k + 4) (some 0) 3 (runB (W__law_bent F__law_draw F__law_bent F__law_odd) (some 0) 2) :=
  fnG_mk Fu hm hb S__law_bent rfl fun _ _ _ _ _ _ _ hr => B__law_bent B Ex H__law_draw H__law_bent H__law_odd hr
/-! need_rule -/
def st_need_rule : Stmt := top 20
def N_need_rule : List Str := ["rule"]
def W_need_rule (F_is_rule : List D → EM RV) : SM :=
  (sIf (tNot_ (eT (eVal (eCall F_is_rule (aCons (eVar 0) aNil))))) (sRaise "BadRule" ["value"] (aCons (eVar 0) aNil)) sNop)
theorem S_need_rule : FnScope N_need_rule ["rule"] (defScope st_need_rule) := ⟨rfl, rfl, rfl, by decide +kernel, rfl, by decide +kernel, by decide +kernel⟩
theorem B_need_rule (B : Bl mg) (Ex : EX P w K mg base) {F_is_rule : List D → EM RV} (H_is_rule : FnG P w K mg base "is_rule" (k + 3) none 1 F_is_rule) (hr : Room (k + 3) (A.deeper (envOfC "need_rule" (defScope st_need_rule) sh.heap.objs.size a cdv))) :
    DSs (cxOf (L2.CX P w) P w K mg base N_need_rule "need_rule" (defScope st_need_rule) a cdv A outer sh H E) wd (fun _ => E) (defBody st_need_rule) (W_need_rule F_is_rule) := by
  have nd : (N_need_rule).Nodup := S_need_rule.nd
  have hu := Room.u65 hr
  unfold W_need_rule
  exact (dss_one (ds_if (dt_not (dt_val (DR.de (dr_call H_is_rule hr rfl hxF (dar_cons (de_var 0) dar_nil))))) (dss_one (ds_raise Ex.i_BadRule (hr.mono (by omega)) rfl tkF rfl (da_cons (de_var 0) da_nil))) dss_nil))
theorem G_need_rule {fd : FuncData} (Fu : Fun K "need_rule" "need_rule" st_need_rule a fd) (hm : mg "need_rule" = some (.ref a)) (hb : L2.Binds K fd ["rule"] []) (B : Bl mg) (Ex : EX P w K mg base) {F_is_rule : List D → EM RV} (H_is_rule : FnG P w K mg base "is_rule" (k + 3) none 1 F_is_rule) : FnG P w K mg base "need_rule" (k + 4) none 1 (runB (W_need_rule F_is_rule) none 0) :=
  fnG_mk Fu hm hb S_need_rule rfl fun _ _ _ _ _ _ _ hr => B_need_rule B Ex H_is_rule hr
/-! need_program -/
def st_need_program : Stmt := top 32
def N_need_program : List Str := ["rule", "program"]
def W_need_program (F_need_rule : List D → EM RV) (F_is_program : List D → EM RV) : SM :=
  (sSeq (sExpr (eVal (eCall F_need_rule (aCons (eVar 0) aNil)))) (sIf (tNot_ (eT (eVal (eCall F_is_program (aCons (eVar 1) aNil))))) (sRaise "NoPrograms" [] aNil) sNop))
theorem S_need_program : FnScope N_need_program ["rule", "program"] (defScope st_need_program) := ⟨rfl, rfl, rfl, by decide +kernel, rfl, by decide +kernel, by decide +kernel⟩
theorem B_need_program (B : Bl mg) (Ex : EX P w K mg base) {F_need_rule : List D → EM RV} (H_need_rule : FnG P w K mg base "need_rule" (k + 3) none 1 F_need_rule) {F_is_program : List D → EM RV} (H_is_program : FnG P w K mg base "is_program" (k + 3) none 1 F_is_program) (hr : Room (k + 3) (A.deeper (envOfC "need_program" (defScope st_need_program) sh.heap.objs.size a cdv))) :
    DSs (cxOf (L2.CX P w) P w K mg base N_need_program "need_program" (defScope st_need_program) a cdv A outer sh H E) wd (fun _ => E) (defBody st_need_program) (W_need_program F_need_rule F_is_program) := by
  have nd : (N_need_program).Nodup := S_need_program.nd
  have hu := Room.u65 hr
  unfold W_need_program
  exact (dss_cons (ds_expr (DR.de (dr_call H_need_rule hr rfl hxF (dar_cons (de_var 0) dar_nil)))) (dss_one (ds_if (dt_not (dt_val (DR.de (dr_call H_is_program hr rfl hxF (dar_cons (de_var 1) dar_nil))))) (dss_one (ds_raise0 Ex.n_NoPrograms rfl tkF rfl)) dss_nil)))
theorem G_need_program {fd : FuncData} (Fu : Fun K "need_program" "need_program" st_need_program a fd) (hm : mg "need_program" = some (.ref a)) (hb : L2.Binds K fd ["rule", "program"] []) (B : Bl mg) (Ex : EX P w K mg base) {F_need_rule : List D → EM RV} (H_need_rule : FnG P w K mg base "need_rule" (k + 3) none 1 F_need_rule) {F_is_program : List D → EM RV} (H_is_program : FnG P w K mg base "is_program" (k + 3) none 1 F_is_program) : FnG P w K mg base "need_program" (k + 4) none 2 (runB (W_need_program F_need_rule F_is_program) none 0) :=
  fnG_mk Fu hm hb S_need_program rfl fun _ _ _ _ _ _ _ hr => B_need_program B Ex H_need_rule H_is_program hr
/-! program_room -/
def st_program_room : Stmt := top 34
def N_program_room : List Str := ["rule", "program"]
def W_program_room (F_need_program : List D → EM RV) (F_tops_of : List D → EM RV) : SM :=
  (sSeq (sExpr (eVal (eCall F_need_program (aCons (eVar 0) (aCons (eVar 1) aNil))))) (sRet (eCall maxM (aCons (eVal (eCall F_tops_of (aCons (eVar 0) (aCons (eVar 1) aNil)))) aNil))))
theorem S_program_room : FnScope N_program_room ["rule", "program"] (defScope st_program_room) := ⟨rfl, rfl, rfl, by decide +kernel, rfl, by decide +kernel, by decide +kernel⟩
theorem B_program_room (B : Bl mg) (Ex : EX P w K mg base) {F_need_program : List D → EM RV} (H_need_program : FnG P w K mg base "need_program" (k + 3) none 2 F_need_program) {F_tops_of : List D → EM RV} (H_tops_of : FnG P w K mg base "tops_of" (k + 3) none 2 F_tops_of) (hr : Room (k + 3) (A.deeper (envOfC "program_room" (defScope st_program_room) sh.heap.objs.size a cdv))) :
    DSs (cxOf (L2.CX P w) P w K mg base N_program_room "program_room" (defScope st_program_room) a cdv A outer sh H E) wd (fun _ => E) (defBody st_program_room) (W_program_room F_need_program F_tops_of) := by
  have nd : (N_program_room).Nodup := S_program_room.nd
  have hu := Room.u65 hr
  unfold W_program_room
  exact (dss_cons (ds_expr (DR.de (dr_call H_need_program hr rfl hxF (dar_cons (de_var 0) (dar_cons (de_var 1) dar_nil))))) (dss_one (ds_ret (de_blt (b_max B.max rfl) rfl (dbs_cons (DE.db (DR.de (dr_call H_tops_of hr rfl hxF (dar_cons (de_var 0) (dar_cons (de_var 1) dar_nil))))) dbs_nil)))))
theorem G_program_room {fd : FuncData} (Fu : Fun K "program_room" "program_room" st_program_room a fd) (hm : mg "program_room" = some (.ref a)) (hb : L2.Binds K fd ["rule", "program"] []) (B : Bl mg) (Ex : EX P w K mg base) {F_need_program : List D → EM RV} (H_need_program : FnG P w K mg base "need_program" (k + 3) none 2 F_need_program) {F_tops_of : List D → EM RV} (H_tops_of : FnG P w K mg base "tops_of" (k + 3) none 2 F_tops_of) : FnG P w K mg base "program_room" (k + 4) none 2 (runB (W_program_room F_need_program F_tops_of) none 0) :=
  fnG_mk Fu hm hb S_program_room rfl fun _ _ _ _ _ _ _ hr => B_program_room B Ex H_need_program H_tops_of hr
/-! need_number -/
def st_need_number : Stmt := top 8
def N_need_number : List Str := ["value", "least", "most"]
def W_need_number (F_is_number : List D → EM RV) : SM :=
  (sSeq (sIf (tNot_ (eT (eVal (eCall F_is_number (aCons (eVar 0) (aCons (eVar 1) (aCons (eVar 2) aNil))))))) (sRaise "BadNumber" ["value"] (aCons (eVar 0) aNil)) sNop) (sRet (eVar 0)))
theorem S_need_number : FnScope N_need_number ["value", "least", "most"] (defScope st_need_number) := ⟨rfl, rfl, rfl, by decide +kernel, rfl, by decide +kernel, by decide +kernel⟩
theorem B_need_number (B : Bl mg) (Ex : EX P w K mg base) {F_is_number : List D → EM RV} (H_is_number : FnG P w K mg base "is_number" (k + 3) none 3 F_is_number) (hr : Room (k + 3) (A.deeper (envOfC "need_number" (defScope st_need_number) sh.heap.objs.size a cdv))) :
    DSs (cxOf (L2.CX P w) P w K mg base N_need_number "need_number" (defScope st_need_number) a cdv A outer sh H E) wd (fun _ => E) (defBody st_need_number) (W_need_number F_is_number) := by
  have nd : (N_need_number).Nodup := S_need_number.nd
  have hu := Room.u65 hr
  unfold W_need_number
  exact (dss_cons (ds_if (dt_not (dt_val (DR.de (dr_call H_is_number hr rfl hxF (dar_cons (de_var 0) (dar_cons (de_var 1) (dar_cons (de_var 2) dar_nil))))))) (dss_one (ds_raise Ex.i_BadNumber (hr.mono (by omega)) rfl tkF rfl (da_cons (de_var 0) da_nil))) dss_nil) (dss_one (ds_ret (de_var 0))))
theorem G_need_number {fd : FuncData} (Fu : Fun K "need_number" "need_number" st_need_number a fd) (hm : mg "need_number" = some (.ref a)) (hb : L2.Binds K fd ["value", "least", "most"] []) (B : Bl mg) (Ex : EX P w K mg base) {F_is_number : List D → EM RV} (H_is_number : FnG P w K mg base "is_number" (k + 3) none 3 F_is_number) : FnG P w K mg base "need_number" (k + 4) none 3 (runB (W_need_number F_is_number) none 0) :=
  fnG_mk Fu hm hb S_need_number rfl fun _ _ _ _ _ _ _ hr => B_need_number B Ex H_is_number hr
/-! is_refused -/
def st_is_refused : Stmt := top 33
def N_is_refused : List Str := ["rule", "field", "program"]
def W_is_refused (F_need_program : List D → EM RV) (F_need_number : List D → EM RV) (F_tops_of : List D → EM RV) : SM :=
  (sSeq (sExpr (eVal (eCall F_need_program (aCons (eVar 0) (aCons (eVar 2) aNil))))) (sSeq (sExpr (eVal (eCall F_need_number (aCons (eVar 1) (aCons (eC (.int 0)) (aCons (eC c_MOST_FIELD) aNil)))))) (sRet (eBin gtM (eCall maxM (aCons (eVal (eCall F_tops_of (aCons (eVar 0) (aCons (eVar 2) aNil)))) aNil)) (eVar 1)))))
theorem S_is_refused : FnScope N_is_refused ["rule", "field", "program"] (defScope st_is_refused) := ⟨rfl, rfl, rfl, by decide +kernel, rfl, by decide +kernel, by decide +kernel⟩
theorem B_is_refused (B : Bl mg) (Ex : EX P w K mg base) {F_need_program : List D → EM RV} (H_need_program : FnG P w K mg base "need_program" (k + 3) none 2 F_need_program) {F_need_number : List D → EM RV} (H_need_number : FnG P w K mg base "need_number" (k + 3) none 3 F_need_number) {F_tops_of : List D → EM RV} (H_tops_of : FnG P w K mg base "tops_of" (k + 3) none 2 F_tops_of) (hr : Room (k + 3) (A.deeper (envOfC "is_refused" (defScope st_is_refused) sh.heap.objs.size a cdv))) :
    DSs (cxOf (L2.CX P w) P w K mg base N_is_refused "is_refused" (defScope st_is_refused) a cdv A outer sh H E) wd (fun _ => E) (defBody st_is_refused) (W_is_refused F_need_program F_need_number F_tops_of) := by
  have nd : (N_is_refused).Nodup := S_is_refused.nd
  have hu := Room.u65 hr
  unfold W_is_refused
  exact (dss_cons (ds_expr (DR.de (dr_call H_need_program hr rfl hxF (dar_cons (de_var 0) (dar_cons (de_var 2) dar_nil))))) (dss_cons (ds_expr (DR.de (dr_call H_need_number hr rfl hxF (dar_cons (de_var 1) (dar_cons de_int (dar_cons (de_gc Ex.h_MOST_FIELD rfl) dar_nil)))))) (dss_one (ds_ret (de_c c_gt (DE.db (de_blt (b_max B.max rfl) rfl (dbs_cons (DE.db (DR.de (dr_call H_tops_of hr rfl hxF (dar_cons (de_var 0) (dar_cons (de_var 2) dar_nil))))) dbs_nil))) (DE.db (de_var 1)))))))
theorem G_is_refused {fd : FuncData} (Fu : Fun K "is_refused" "is_refused" st_is_refused a fd) (hm : mg "is_refused" = some (.ref a)) (hb : L2.Binds K fd ["rule", "field", "program"] []) (B : Bl mg) (Ex : EX P w K mg base) {F_need_program : List D → EM RV} (H_need_program : FnG P w K mg base "need_program" (k + 3) none 2 F_need_program) {F_need_number : List D → EM RV} (H_need_number : FnG P w K mg base "need_number" (k + 3) none 3 F_need_number) {F_tops_of : List D → EM RV} (H_tops_of : FnG P w K mg base "tops_of" (k + 3) none 2 F_tops_of) : FnG P w K mg base "is_refused" (k + 4) none 3 (runB (W_is_refused F_need_program F_need_number F_tops_of) none 0) :=
  fnG_mk Fu hm hb S_is_refused rfl fun _ _ _ _ _ _ _ hr => B_is_refused B Ex H_need_program H_need_number H_tops_of hr
/-! _law_left -/
def st__law_left : Stmt := top 51
def N__law_left : List Str := ["program", "row", "k", "asks", "kept", "found", "kind", "number"]
def W__law_left : SM :=
  (sSeq (sSet 3 (eFrz (eComp (eCall rng1M (aCons (eCall lenM (aCons (eVar 0) aNil)) aNil)) (gN 2) (eT (eBin eqM (eBin ixM (eBin ixM (eVar 0) (eVar 2)) (eC (.int 0))) (eC (.str "ask")))) (eVar 2) [2]))) (sSeq (sPar 13 [4, 5] (kDat (eFrz (eComp (eItems (eVar 1)) (gN 2) (eT (eBin eqM (eBin ixM (eBin ixM (eVar 0) (eVar 2)) (eC (.int 0))) (eC (.str "ask")))) (eVar 2) [2])) (kLst (eLst aNil) kNil))) (sSeq (sFor (eItems (eVar 1)) (gN 2) (sSeq (sAsg (gT 2 (gCons_ (gN 6) (gCons_ (gN 7) gNil_))) (eBin ixM (eVar 0) (eVar 2))) (sSeq (sIf (eT (eBin eqM (eVar 6) (eC (.str "let")))) (sSeq (sIf (eT (eBin (inM true) (eBin ixM (eVar 3) (eVar 7)) (eVar 4))) (sRet (eC .non)) sNop) (sSet 7 (eIdx (eVar 4) (eBin ixM (eVar 3) (eVar 7))))) sNop) (sMut 5 (eTup (aCons (eVar 6) (aCons (eVar 7) aNil))) apF)))) (sRet (eCall tupleM (aCons (eVarB 5) aNil))))))
theorem S__law_left : FnScope N__law_left ["program", "row"] (defScope st__law_left) := ⟨rfl, rfl, rfl, by decide +kernel, rfl, by decide +kernel, by decide +kernel⟩
theorem B__law_left (B : Bl mg) (Ex : EX P w K mg base) (hr : Room (k + 3) (A.deeper (envOfC "_law_left" (defScope st__law_left) sh.heap.objs.size a cdv))) :
    DSs (cxOf (L2.CX P w) P w K mg base N__law_left "_law_left" (defScope st__law_left) a cdv A outer sh H E) wd (fun _ => E) (defBody st__law_left) (W__law_left) := by
  have nd : (N__law_left).Nodup := S__law_left.nd
  have hu := Room.u65 hr
  unfold W__law_left
  exact (dss_cons (ds_setC 3 (own := [("k", 2)]) rfl nd (DIS.di (dis_range1 B.range rfl (da_cons (de_blt (b_len B.len) rfl (dbs_cons (DE.db (de_var 0)) dbs_nil)) da_nil))) (blkOk_by (by kernel_rfl)) (by decide) (fun _ _ _ _ _ => (dg_name 2 nd)) (fun _ _ _ _ _ => (dts_one (dt_c (c_eq hu) (DE.db (de_ix (DE.db (de_ix (DE.db (de_var 0)) (DE.db (de_var 2)))) (DE.db de_int))) (DE.db de_str)))) (fun _ _ _ _ _ => (de_var 2))) (dss_cons (ds_par2 13 4 5 rfl nd (dks_dat (DF.de (df_comp (own := [("k", 2)]) rfl nd (di_seq (DE.db (de_var 1))) (blkOk_by (by kernel_rfl)) (by decide) (fun _ _ _ _ _ => (dg_name 2 nd)) (fun _ _ _ _ _ => (dts_one (dt_c (c_eq hu) (DE.db (de_ix (DE.db (de_ix (DE.db (de_var 0)) (DE.db (de_var 2)))) (DE.db de_int))) (DE.db de_str)))) (fun _ _ _ _ _ => (de_var 2)))) (dks_lst (df_lst da_nil) dks_nil))) (dss_cons (ds_for (poF) rfl (dis_seq (de_var 1)) (dg_name 2 nd) (dss_cons (ds_asg (de_ix (DE.db (de_var 0)) (DE.db (de_var 2))) (dg_tup rfl (dgs_cons (dg_name 6 nd) (dgs_cons (dg_name 7 nd) dgs_nil)))) (dss_cons (ds_if (dt_c (c_eq hu) (DE.db (de_var 6)) (DE.db de_str)) (dss_cons (ds_if (dt_c (c_notin hu) (DE.db (de_ix (DE.db (de_var 3)) (DE.db (de_var 7)))) (DE.db (de_var 4))) (dss_one (ds_ret de_non)) dss_nil) (dss_one (ds_set 7 nd (de_index hu (DE.db (de_var 4)) (DE.db (de_ix (DE.db (de_var 3)) (DE.db (de_var 7)))))))) dss_nil) (dss_one (ds_append 5 (de_tup (da_cons (de_var 6) (da_cons (de_var 7) da_nil)))))))) (dss_one (ds_ret (de_blt (b_tuple B.tuple) rfl (dbs_cons (db_var 5) dbs_nil)))))))
theorem G__law_left {fd : FuncData} (Fu : Fun K "_law_left" "_law_left" st__law_left a fd) (hm : mg "_law_left" = some (.ref a)) (hb : L2.Binds K fd ["program", "row"] []) (B : Bl mg) (Ex : EX P w K mg base) : FnG P w K mg base "_law_left" (k + 4) none 2 (runB (W__law_left) none 6) :=
  fnG_mk Fu hm hb S__law_left rfl fun _ _ _ _ _ _ _ hr => B__law_left B Ex hr
/-! core -/
def st_core : Stmt := top 35
def N_core : List Str := ["rule", "field", "program", "rows", "longer", "row", "start", "at", "own"]
def W_core (fuel : Nat) (F_is_refused : List D → EM RV) (F_kept_steps : List D → EM RV) (F_tops_of : List D → EM RV) : SM :=
  (sSeq (sIf (tNot_ (eT (eVal (eCall F_is_refused (aCons (eVar 0) (aCons (eVar 1) (aCons (eVar 2) aNil))))))) (sRaise "NotThere" [] aNil) sNop) (sSeq (sSet 3 (eFrz (eLst (aCons (eTup aNil) aNil)))) (sWhile (fun _ => fuel) (eT (eC (.bl true))) (sSeq (sSetF 4 (eLst aNil)) (sSeq (sFor (eItems (eVar 3)) (gN 5) (sSeq (sSet 6 (eIf (eT (eBin gtM (eCall lenM (aCons (eVar 5) aNil)) (eC (.int 0)))) (eBin addM (eBin ixM (eVar 5) (eUn negM (eC (.int 1)))) (eC (.int 1))) (eC (.int 0)))) (sMut 4 (eFrz (eComp (eCall rng2M (aCons (eVar 6) (aCons (eCall lenM (aCons (eVar 2) aNil)) aNil))) (gN 7) tYes_ (eBin addM (eVar 5) (eTup (aCons (eVar 7) aNil))) [7])) exF))) (sSeq (sFrz 4 (sFor (eItems (eVar 4)) (gN 5) (sSeq (sSet 8 (eVal (eCall F_kept_steps (aCons (eVar 2) (aCons (eVar 5) aNil))))) (sIf (tAnd_ (eT (eBin (isM true) (eVar 8) (eC .non))) (eT (eBin gtM (eCall maxM (aCons (eVal (eCall F_tops_of (aCons (eVar 0) (aCons (eVar 8) aNil)))) aNil)) (eVar 1)))) (sRet (eVar 8)) sNop)))) (sFrz 4 (sSet 3 (eVar 4)))))))))
theorem S_core : FnScope N_core ["rule", "field", "program"] (defScope st_core) := ⟨rfl, rfl, rfl, by decide +kernel, rfl, by decide +kernel, by decide +kernel⟩
theorem B_core (B : Bl mg) (Ex : EX P w K mg base) (fuel : Nat) {F_is_refused : List D → EM RV} (H_is_refused : FnG P w K mg base "is_refused" (k + 3) none 3 F_is_refused) {F_kept_steps : List D → EM RV} (H_kept_steps : FnG P w K mg base "kept_steps" (k + 3) none 2 F_kept_steps) {F_tops_of : List D → EM RV} (H_tops_of : FnG P w K mg base "tops_of" (k + 3) none 2 F_tops_of) (hr : Room (k + 3) (A.deeper (envOfC "core" (defScope st_core) sh.heap.objs.size a cdv))) :
    DSs (cxOf (L2.CX P w) P w K mg base N_core "core" (defScope st_core) a cdv A outer sh H E) wd (fun _ => E) (defBody st_core) (W_core fuel F_is_refused F_kept_steps F_tops_of) := by
  have nd : (N_core).Nodup := S_core.nd
  have hu := Room.u65 hr
  unfold W_core
  exact (dss_cons (ds_if (dt_not (dt_val (DR.de (dr_call H_is_refused hr rfl hxF (dar_cons (de_var 0) (dar_cons (de_var 1) (dar_cons (de_var 2) dar_nil))))))) (dss_one (ds_raise0 Ex.n_NotThere rfl tkF rfl)) dss_nil) (dss_cons (ds_set 3 nd (DF.de (df_lst (da_cons (de_tup da_nil) da_nil)))) (dss_one (ds_while (fun _ => fuel) (poF) (dt_val de_bl) (dss_cons (ds_setF 4 nd (df_lst da_nil)) (dss_cons (ds_for (poF) rfl (dis_seq (de_var 3)) (dg_name 5 nd) (dss_cons (ds_set 6 nd (de_if (dt_c c_gt (DE.db (de_blt (b_len B.len) rfl (dbs_cons (DE.db (de_var 5)) dbs_nil))) (DE.db de_int)) (de_add (DE.db (de_ix (DE.db (de_var 5)) (DE.db (de_neg de_int)))) (DE.db de_int)) de_int)) (dss_one (ds_extend 4 (DE.db (DF.de (df_comp (own := [("at", 7)]) rfl nd (DIS.di (dis_range2 B.range rfl (da_cons (de_var 6) (da_cons (de_blt (b_len B.len) rfl (dbs_cons (DE.db (de_var 2)) dbs_nil)) da_nil)))) (blkOk_by (by kernel_rfl)) (by decide) (fun _ _ _ _ _ => (dg_name 7 nd)) (fun _ _ _ _ _ => dts_nil) (fun _ _ _ _ _ => (de_add (DE.db (de_var 5)) (DE.db (de_tup (da_cons (de_var 7) da_nil)))))))))))) (dss_cons (ds_frz 4 (ds_for (poF) rfl (dis_seq (de_var 4)) (dg_name 5 nd) (dss_cons (ds_set 8 nd (DR.de (dr_call H_kept_steps hr rfl hxF (dar_cons (de_var 2) (dar_cons (de_var 5) dar_nil))))) (dss_one (ds_if (DW.dt (dw_and (dt_c c_isnot (DE.db (de_var 8)) (DE.db de_non)) (dw_and1 (dt_c c_gt (DE.db (de_blt (b_max B.max rfl) rfl (dbs_cons (DE.db (DR.de (dr_call H_tops_of hr rfl hxF (dar_cons (de_var 0) (dar_cons (de_var 8) dar_nil))))) dbs_nil))) (DE.db (de_var 1)))))) (dss_one (ds_ret (de_var 8))) dss_nil))))) (dss_one (ds_frz 4 (ds_set 3 nd (de_var 4)))))))))))
theorem G_core {fd : FuncData} (Fu : Fun K "core" "core" st_core a fd) (hm : mg "core" = some (.ref a)) (hb : L2.Binds K fd ["rule", "field", "program"] []) (B : Bl mg) (Ex : EX P w K mg base) (fuel : Nat) {F_is_refused : List D → EM RV} (H_is_refused : FnG P w K mg base "is_refused" (k + 3) none 3 F_is_refused) {F_kept_steps : List D → EM RV} (H_kept_steps : FnG P w K mg base "kept_steps" (k + 3) none 2 F_kept_steps) {F_tops_of : List D → EM RV} (H_tops_of : FnG P w K mg base "tops_of" (k + 3) none 2 F_tops_of) : FnG P w K mg base "core" (k + 4) none 3 (runB (W_core fuel F_is_refused F_kept_steps F_tops_of) none 6) :=
  fnG_mk Fu hm hb S_core rfl fun _ _ _ _ _ _ _ hr => B_core B Ex fuel H_is_refused H_kept_steps H_tops_of hr
/-! law -/
def st_law : Stmt := top 52
def N_law : List Str := ["script", "pot", "turn", "rule", "program", "room", "field", "row", "bad", "value", "is_one", "k", "j", "own"]
def W_law (hsR : List (DL.Tab × Str)) (F__law_pot : List D → EM RV) (F__law_rule : List D → EM RV) (F__law_program : List D → EM RV) (F__law_draw : List D → EM RV) (F__law_room : List D → EM RV) (F__law_pick : List D → EM RV) (F__law_same : List D → EM RV) (F_program_room : List D → EM RV) (F_is_refused : List D → EM RV) (F__law_rows : List D → EM RV) (F__law_left : List D → EM RV) (F_core : List D → EM RV) (F__law_bent : List D → EM RV) (F_is_program : List D → EM RV) (F_is_core : List D → EM RV) : SM :=
  (sMk 1 (eNew (eCall F__law_pot (aCons (eVar 0) aNil))) (sSeq (sFor (eCall rng1M (aCons (eC (.int 4)) aNil)) (gN 2) (sSeq (sAsg (gT 2 (gCons_ (gN 3) (gCons_ (gN 4) gNil_))) (eTup (aCons (eVal (eCall F__law_rule (aRoot 1 aNil))) (aCons (eVal (eCall F__law_program (aRoot 1 (aCons (eBin addM (eC (.int 1)) (eVal (eCall F__law_draw (aRoot 1 (aCons (eC (.int 6)) aNil))))) aNil)))) aNil)))) (sSeq (sSet 5 (eVal (eCall F__law_room (aCons (eVar 3) (aCons (eVar 4) aNil))))) (sSeq (sSet 6 (eVal (eCall F__law_pick (aRoot 1 (aCons (eFrz (eLst (aCons (eBin subM (eVar 5) (eC (.int 1))) (aCons (eBin subM (eVar 5) (eC (.int 1))) (aCons (eCall maxM (aCons (eC (.int 0)) (aCons (eBin subM (eVar 5) (eC (.int 2))) aNil))) (aCons (eC (.int 0)) (aCons (eVar 5) aNil))))))) aNil))))) (sSeq (sIf (tNot_ (eT (eVal (eCall F__law_same (aCons (eTup (aCons (eVal (eCall F_program_room (aCons (eVar 3) (aCons (eVar 4) aNil)))) (aCons (eVal (eCall F_is_refused (aCons (eVar 3) (aCons (eVar 6) (aCons (eVar 4) aNil))))) aNil))) (aCons (eTup (aCons (eVar 5) (aCons (eBin gtM (eVar 5) (eVar 6)) aNil))) aNil)))))) (sRet (eC (.bl false))) sNop) (sSeq (sSet 8 (eFrz (eComp (eItems (eVal (eCall F__law_rows (aCons (eFrz (eBinF lrM (eC (.int 0)) (eCall lenM (aCons (eVar 4) aNil)))) (aCons (eCall lenM (aCons (eVar 4) aNil)) aNil))))) (gN 7) (eT (eBin (isM true) (eVal (eCall F__law_left (aCons (eVar 4) (aCons (eVar 7) aNil)))) (eC .non))) (eVar 7) [7]))) (sSeq (sSet 8 (eFrz (eComp (eItems (eVar 8)) (gN 7) (eT (eBin gtM (eVal (eCall F__law_room (aCons (eVar 3) (aCons (eVal (eCall F__law_left (aCons (eVar 4) (aCons (eVar 7) aNil)))) aNil)))) (eVar 6))) (eVar 7) [7]))) (sSeq (sIf (eT (eBin leM (eVar 5) (eVar 6))) (sIf (tNot_ (eT (eRaises hsR "NotThere" (eVal (eCall F_core (aCons (eVar 3) (aCons (eVar 6) (aCons (eVar 4) aNil)))))))) (sRet (eC (.bl false))) sNop) (sIf (tNot_ (eT (eVal (eCall F__law_same (aCons (eVal (eCall F_core (aCons (eVar 3) (aCons (eVar 6) (aCons (eVar 4) aNil))))) (aCons (eVal (eCall F__law_left (aCons (eVar 4) (aCons (eBin ixM (eVar 8) (eC (.int 0))) aNil)))) aNil)))))) (sRet (eC (.bl false))) (sSeq (sSet 9 (eVal (eCall F__law_bent (aRoot 1 (aCons (eVal (eCall F__law_left (aCons (eVar 4) (aCons (eVal (eCall F__law_pick (aRoot 1 (aCons (eVar 8) aNil)))) aNil)))) (aCons (eC (.int 2)) aNil)))))) (sSeq (sSet 10 (eAnd (eVal (eCall F_is_program (aCons (eVar 9) aNil))) (eBin gtM (eVal (eCall F__law_room (aCons (eVar 3) (aCons (eVar 9) aNil)))) (eVar 6)))) (sSeq (sFor (eItems (eIf (eT (eVar 10)) (eFrz (eBinF lrM (eC (.int 0)) (eCall lenM (aCons (eVar 9) aNil)))) (eFrz (eLst aNil)))) (gN 11) (sSeq (sSet 13 (eVal (eCall F__law_left (aCons (eVar 9) (aCons (eFrz (eComp (eCall rng1M (aCons (eCall lenM (aCons (eVar 9) aNil)) aNil)) (gN 12) (eT (eBin neM (eVar 12) (eVar 11))) (eVar 12) [12])) aNil))))) (sSet 10 (eAnd (eVar 10) (eOr (eBin (isM false) (eVar 13) (eC .non)) (eBin leM (eVal (eCall F__law_room (aCons (eVar 3) (aCons (eVar 13) aNil)))) (eVar 6))))))) (sSeq (sIf (tNot_ (eT (eVal (eCall F__law_same (aCons (eVal (eCall F_is_core (aCons (eVar 3) (aCons (eVar 6) (aCons (eVar 4) (aCons (eVar 9) aNil)))))) (aCons (eVar 10) aNil)))))) (sRet (eC (.bl false))) sNop) (sIf (tNot_ (eT (eVal (eCall F_is_core (aCons (eVar 3) (aCons (eVar 6) (aCons (eVar 4) (aCons (eVal (eCall F_core (aCons (eVar 3) (aCons (eVar 6) (aCons (eVar 4) aNil))))) aNil)))))))) (sRet (eC (.bl false))) sNop))))))) (sSeq (sIf (tNot_ (eT (eRaises hsR "NoPrograms" (eVal (eCall F_core (aCons (eVar 3) (aCons (eVar 6) (aCons (eTup aNil) aNil)))))))) (sRet (eC (.bl false))) sNop) (sSeq (sIf (tNot_ (eT (eRaises hsR "NoPrograms" (eVal (eCall F_program_room (aCons (eVar 3) (aCons (eTup (aCons (eTup (aCons (eC (.str "let")) (aCons (eC (.int 0)) aNil))) aNil)) aNil))))))) (sRet (eC (.bl false))) sNop) (sIf (tOr_ (eT (eVal (eCall F_is_core (aCons (eC (.str "none")) (aCons (eVar 6) (aCons (eVar 4) (aCons (eVar 4) aNil))))))) (eT (eVal (eCall F_is_core (aCons (eVar 3) (aCons (eUn negM (eC (.int 1))) (aCons (eVar 4) (aCons (eVar 4) aNil)))))))) (sRet (eC (.bl false))) sNop))))))))))) (sRet (eC (.bl true)))))
theorem S_law : FnScope N_law ["script"] (defScope st_law) := ⟨rfl, rfl, rfl, by decide +kernel, rfl, by decide +kernel, by decide +kernel⟩
theorem B_law (B : Bl mg) (Ex : EX P w K mg base) {F__law_pot : List D → EM RV} (H__law_pot : FnG P w K mg base "_law_pot" (k + 3) none 1 F__law_pot) {F__law_rule : List D → EM RV} (H__law_rule : FnG P w K mg base "_law_rule" (k + 3) (some 0) 1 F__law_rule) {F__law_program : List D → EM RV} (H__law_program : FnG P w K mg base "_law_program" (k + 3) (some 0) 2 F__law_program) {F__law_draw : List D → EM RV} (H__law_draw : FnG P w K mg base "_law_draw" (k + 3) (some 0) 2 F__law_draw) {F__law_room : List D → EM RV} (H__law_room : FnG P w K mg base "_law_room" (k + 3) none 2 F__law_room) {F__law_pick : List D → EM RV} (H__law_pick : FnG P w K mg base "_law_pick" (k + 3) (some 0) 2 F__law_pick) {F__law_same : List D → EM RV} (H__law_same : FnG P w K mg base "_law_same" (k + 3) none 2 F__law_same) {F_program_room : List D → EM RV} (H_program_room : FnG P w K mg base "program_room" (k + 3) none 2 F_program_room) {F_is_refused : List D → EM RV} (H_is_refused : FnG P w K mg base "is_refused" (k + 3) none 3 F_is_refused) {F__law_rows : List D → EM RV} (H__law_rows : FnG P w K mg base "_law_rows" (k + 3) none 2 F__law_rows) {F__law_left : List D → EM RV} (H__law_left : FnG P w K mg base "_law_left" (k + 3) none 2 F__law_left) {F_core : List D → EM RV} (H_core : FnG P w K mg base "core" (k + 3) none 3 F_core) {F__law_bent : List D → EM RV} (H__law_bent : FnG P w K mg base "_law_bent" (k + 3) (some 0) 3 F__law_bent) {F_is_program : List D → EM RV} (H_is_program : FnG P w K mg base "is_program" (k + 3) none 1 F_is_program) {F_is_core : List D → EM RV} (H_is_core : FnG P w K mg base "is_core" (k + 3) none 4 F_is_core) {T : List (Addr × Str)} (hlw : LamW T wd) (hnr : wd.r = none) {hsR : List (DL.Tab × Str)} (hrL : RaisesL K mg base cdv "law.<locals>." T hsR) (hr : Room (k + 5) (A.deeper (envOfC "law" (defScope st_law) sh.heap.objs.size a cdv))) :
    DSs (cxOf (L2.CX P w) P w K mg base N_law "law" (defScope st_law) a cdv A outer sh H E) wd (fun _ => E) (defBody st_law) (W_law hsR F__law_pot F__law_rule F__law_program F__law_draw F__law_room F__law_pick F__law_same F_program_room F_is_refused F__law_rows F__law_left F_core F__law_bent F_is_program F_is_core) := by
  have nd : (N_law).Nodup := S_law.nd
  have hu := Room.u65 hr
  have hr2 := hr
  have hr := hr.mono (j := k + 3) (by omega)
  unfold W_law
  exact (dss_mk 1 hnr nd (DR.df (dr_call H__law_pot hr rfl hxF (dar_cons (de_var 0) dar_nil))) (fun aR => (dss_cons (ds_for (poF) rfl (dis_range1 B.range rfl (da_cons de_int da_nil)) (dg_name 2 nd) (dss_cons (ds_asg (de_tup (da_cons (DR.de (dr_call H__law_rule hr rfl hxF (dar_root 1 dar_nil))) (da_cons (DR.de (dr_call H__law_program hr rfl hxF (dar_root 1 (dar_cons (de_add (DE.db de_int) (DE.db (DR.de (dr_call H__law_draw hr rfl hxF (dar_root 1 (dar_cons de_int dar_nil)))))) dar_nil)))) da_nil))) (dg_tup rfl (dgs_cons (dg_name 3 nd) (dgs_cons (dg_name 4 nd) dgs_nil)))) (dss_cons (ds_set 5 nd (DR.de (dr_call H__law_room hr rfl hxF (dar_cons (de_var 3) (dar_cons (de_var 4) dar_nil))))) (dss_cons (ds_set 6 nd (DR.de (dr_call H__law_pick hr rfl hxF (dar_root 1 (dar_cons (DF.de (df_lst (da_cons (de_sub (DE.db (de_var 5)) (DE.db de_int)) (da_cons (de_sub (DE.db (de_var 5)) (DE.db de_int)) (da_cons (de_blt (b_max B.max rfl) rfl (dbs_cons (DE.db de_int) (dbs_cons (DE.db (de_sub (DE.db (de_var 5)) (DE.db de_int))) dbs_nil))) (da_cons de_int (da_cons (de_var 5) da_nil))))))) dar_nil))))) (dss_cons (ds_if (dt_not (dt_val (DR.de (dr_call H__law_same hr rfl hxF (dar_cons (de_tup (da_cons (DR.de (dr_call H_program_room hr rfl hxF (dar_cons (de_var 3) (dar_cons (de_var 4) dar_nil)))) (da_cons (DR.de (dr_call H_is_refused hr rfl hxF (dar_cons (de_var 3) (dar_cons (de_var 6) (dar_cons (de_var 4) dar_nil))))) da_nil))) (dar_cons (de_tup (da_cons (de_var 5) (da_cons (de_c c_gt (DE.db (de_var 5)) (DE.db (de_var 6))) da_nil))) dar_nil)))))) (dss_one (ds_ret de_bl)) dss_nil) (dss_cons (ds_setC 8 (own := [("row", 7)]) rfl nd (di_seq (DE.db (DR.de (dr_call H__law_rows hr rfl hxF (dar_cons (DF.de (df_listRg1 rfl rfl B.list rfl B.range (de_blt (b_len B.len) rfl (dbs_cons (DE.db (de_var 4)) dbs_nil)))) (dar_cons (de_blt (b_len B.len) rfl (dbs_cons (DE.db (de_var 4)) dbs_nil)) dar_nil)))))) (blkOk_by (by kernel_rfl)) (by decide) (fun _ _ _ _ _ => (dg_name 7 nd)) (fun _ _ _ _ _ => (dts_one (dt_c c_isnot (DE.db (DR.de (dr_call H__law_left hr rfl hx0 (dar_cons (de_var 4) (dar_cons (de_var 7) dar_nil))))) (DE.db de_non)))) (fun _ _ _ _ _ => (de_var 7))) (dss_cons (ds_setC 8 (own := [("row", 7)]) rfl nd (di_seq (DE.db (de_var 8))) (blkOk_by (by kernel_rfl)) (by decide) (fun _ _ _ _ _ => (dg_name 7 nd)) (fun _ _ _ _ _ => (dts_one (dt_c c_gt (DE.db (DR.de (dr_call H__law_room hr rfl hx0 (dar_cons (de_var 3) (dar_cons (DR.de (dr_call H__law_left hr rfl hx0 (dar_cons (de_var 4) (dar_cons (de_var 7) dar_nil)))) dar_nil))))) (DE.db (de_var 6))))) (fun _ _ _ _ _ => (de_var 7))) (dss_cons (ds_if (dt_c c_le (DE.db (de_var 5)) (DE.db (de_var 6))) (dss_one (ds_if (dt_not (dt_val (de_raisesL hlw.r hrL hr2 rfl (lamS_by (by kernel_rfl)) fun A1 ou s1 H1 E1 fL cL hr => (DR.de (dr_call H_core hr rfl hxL (dar_cons (de_var 3) (dar_cons (de_var 6) (dar_cons (de_var 4) dar_nil)))))))) (dss_one (ds_ret de_bl)) dss_nil)) (dss_one (ds_if (dt_not (dt_val (DR.de (dr_call H__law_same hr rfl hxF (dar_cons (DR.de (dr_call H_core hr rfl hxF (dar_cons (de_var 3) (dar_cons (de_var 6) (dar_cons (de_var 4) dar_nil))))) (dar_cons (DR.de (dr_call H__law_left hr rfl hxF (dar_cons (de_var 4) (dar_cons (de_ix (DE.db (de_var 8)) (DE.db de_int)) dar_nil)))) dar_nil)))))) (dss_one (ds_ret de_bl)) (dss_cons (ds_set 9 nd (DR.de (dr_call H__law_bent hr rfl hxF (dar_root 1 (dar_cons (DR.de (dr_call H__law_left hr rfl hxF (dar_cons (de_var 4) (dar_cons (DR.de (dr_call H__law_pick hr rfl hxF (dar_root 1 (dar_cons (de_var 8) dar_nil)))) dar_nil)))) (dar_cons de_int dar_nil)))))) (dss_cons (ds_set 10 nd (de_and (DR.de (dr_call H_is_program hr rfl hxF (dar_cons (de_var 9) dar_nil))) (de_one (de_c c_gt (DE.db (DR.de (dr_call H__law_room hr rfl hxF (dar_cons (de_var 3) (dar_cons (de_var 9) dar_nil))))) (DE.db (de_var 6)))))) (dss_cons (ds_for (poF) rfl (dis_seq (de_if (dt_val (de_var 10)) (DF.de (df_listRg1 rfl rfl B.list rfl B.range (de_blt (b_len B.len) rfl (dbs_cons (DE.db (de_var 9)) dbs_nil)))) (DF.de (df_lst da_nil)))) (dg_name 11 nd) (dss_cons (ds_set 13 nd (DR.de (dr_call H__law_left hr rfl hxF (dar_cons (de_var 9) (dar_cons (DF.de (df_comp (own := [("j", 12)]) rfl nd (DIS.di (dis_range1 B.range rfl (da_cons (de_blt (b_len B.len) rfl (dbs_cons (DE.db (de_var 9)) dbs_nil)) da_nil))) (blkOk_by (by kernel_rfl)) (by decide) (fun _ _ _ _ _ => (dg_name 12 nd)) (fun _ _ _ _ _ => (dts_one (dt_c (c_ne hu) (DE.db (de_var 12)) (DE.db (de_var 11))))) (fun _ _ _ _ _ => (de_var 12)))) dar_nil))))) (dss_one (ds_set 10 nd (de_and (de_var 10) (de_one (de_or (de_c c_is (DE.db (de_var 13)) (DE.db de_non)) (de_one (de_c c_le (DE.db (DR.de (dr_call H__law_room hr rfl hxF (dar_cons (de_var 3) (dar_cons (de_var 13) dar_nil))))) (DE.db (de_var 6))))))))))) (dss_cons (ds_if (dt_not (dt_val (DR.de (dr_call H__law_same hr rfl hxF (dar_cons (DR.de (dr_call H_is_core hr rfl hxF (dar_cons (de_var 3) (dar_cons (de_var 6) (dar_cons (de_var 4) (dar_cons (de_var 9) dar_nil)))))) (dar_cons (de_var 10) dar_nil)))))) (dss_one (ds_ret de_bl)) dss_nil) (dss_one (ds_if (dt_not (dt_val (DR.de (dr_call H_is_core hr rfl hxF (dar_cons (de_var 3) (dar_cons (de_var 6) (dar_cons (de_var 4) (dar_cons (DR.de (dr_call H_core hr rfl hxF (dar_cons (de_var 3) (dar_cons (de_var 6) (dar_cons (de_var 4) dar_nil))))) dar_nil)))))))) (dss_one (ds_ret de_bl)) dss_nil))))))))) (dss_cons (ds_if (dt_not (dt_val (de_raisesL hlw.r hrL hr2 rfl (lamS_by (by kernel_rfl)) fun A1 ou s1 H1 E1 fL cL hr => (DR.de (dr_call H_core hr rfl hxL (dar_cons (de_var 3) (dar_cons (de_var 6) (dar_cons (de_tup da_nil) dar_nil)))))))) (dss_one (ds_ret de_bl)) dss_nil) (dss_cons (ds_if (dt_not (dt_val (de_raisesL hlw.r hrL hr2 rfl (lamS_by (by kernel_rfl)) fun A1 ou s1 H1 E1 fL cL hr => (DR.de (dr_call H_program_room hr rfl hxL (dar_cons (de_var 3) (dar_cons (de_tup (da_cons (de_tup (da_cons de_str (da_cons de_int da_nil))) da_nil)) dar_nil))))))) (dss_one (ds_ret de_bl)) dss_nil) (dss_one (ds_if (DW.dt (dw_or (dt_val (DR.de (dr_call H_is_core hr rfl hxF (dar_cons de_str (dar_cons (de_var 6) (dar_cons (de_var 4) (dar_cons (de_var 4) dar_nil))))))) (dw_or1 (dt_val (DR.de (dr_call H_is_core hr rfl hxF (dar_cons (de_var 3) (dar_cons (de_neg de_int) (dar_cons (de_var 4) (dar_cons (de_var 4) dar_nil)))))))))) (dss_one (ds_ret de_bl)) dss_nil)))))))))))) (dss_one (ds_ret de_bl)))))
end
/-! what the defs make of their arguments -/
def R__law_pot : List D → EM RV := runB (W__law_pot) none 1
def R__law_top : List D → EM RV := runB (W__law_top) none 2
def R__law_place : List D → EM RV := runB (W__law_place) none 10
def R__law_room : List D → EM RV := runB (W__law_room R__law_place R__law_top) none 6
def R__law_draw : List D → EM RV := runB (W__law_draw) (some 0) 2
def R__law_pick : List D → EM RV := runB (W__law_pick R__law_draw) (some 0) 0
def R__law_rule : List D → EM RV := runB (W__law_rule R__law_pick) (some 0) 0
def R__law_program : List D → EM RV := runB (W__law_program R__law_draw) (some 0) 4
def R__law_same : Nat → List D → EM RV
  | 0 => fun _ _ => .bad
  | n + 1 => runB (W__law_same (R__law_same n)) none 1
def R_kept_steps : List D → EM RV := runB (W_kept_steps) none 7
def R_is_rule : List D → EM RV := runB (W_is_rule) none 0
def R_is_number : List D → EM RV := runB (W_is_number) none 0
def R_is_step : List D → EM RV := runB (W_is_step R_is_number) none 0
def R_is_program : List D → EM RV := runB (W_is_program R_is_step) none 3
def R_with_plot : List D → EM RV := runB (W_with_plot) none 0
def R_without_plot : List D → EM RV := runB (W_without_plot) none 1
def R_end_of : List D → EM RV := runB (W_end_of) none 0
def R_top_of : List D → EM RV := runB (W_top_of R_end_of) none 0
def R_chosen_gap : List D → EM RV := runB (W_chosen_gap) none 4
def R_stride_of : List D → EM RV := runB (W_stride_of 1000) none 1
def R_is_free : List D → EM RV := runB (W_is_free R_end_of) none 1
def R_even_start : List D → EM RV := runB (W_even_start 1000 R_stride_of R_is_free) none 2
def R_gaps_below : List D → EM RV := runB (W_gaps_below) none 4
def R_place_for : List D → EM RV := runB (W_place_for R_even_start R_gaps_below R_top_of R_chosen_gap) none 4
def R_tops_of : List D → EM RV := runB (W_tops_of R_place_for R_with_plot R_without_plot R_top_of) none 5
def R_is_core : List D → EM RV := runB (W_is_core R_is_rule R_is_number R_is_program R_tops_of R_kept_steps) none 3
def R__law_rows : List D → EM RV := runB (W__law_rows) none 4
def R__law_odd : List D → EM RV := runB (W__law_odd R__law_pick) (some 0) 1
def R__law_bent : Nat → List D → EM RV
  | 0 => fun _ _ => .bad
  | n + 1 => runB (W__law_bent R__law_draw (R__law_bent n) R__law_odd) (some 0) 2
def R_need_rule : List D → EM RV := runB (W_need_rule R_is_rule) none 0
def R_need_program : List D → EM RV := runB (W_need_program R_need_rule R_is_program) none 0
def R_program_room : List D → EM RV := runB (W_program_room R_need_program R_tops_of) none 0
def R_need_number : List D → EM RV := runB (W_need_number R_is_number) none 0
def R_is_refused : List D → EM RV := runB (W_is_refused R_need_program R_need_number R_tops_of) none 0
def R__law_left : List D → EM RV := runB (W__law_left) none 6
def R_core : List D → EM RV := runB (W_core 1000 R_is_refused R_kept_steps R_tops_of) none 6
def hsR : List (DL.Tab × Str) := [(tab_NoPrograms, "NoPrograms"), (tab_NotThere, "NotThere")]
def R_law : SM := W_law hsR R__law_pot R__law_rule R__law_program R__law_draw R__law_room R__law_pick (R__law_same 12) R_program_room R_is_refused R__law_rows R__law_left R_core (R__law_bent 12) R_is_program R_is_core
end G_k12

namespace G_k12
open PySem PySem.Spec PyProof.Rows L2 LamX DL
/-- what draws are taken from -/
def Pot : Rt → Prop
  | .lst [.lst cs, .int u, .int m, .int g] => (∃ ns : List Int, cs = ns.map D.int ∧ ∀ n ∈ ns, 0 ≤ n) ∧ 0 ≤ u ∧ 0 ≤ m ∧ m < 2147483647 ∧ 0 ≤ g
  | _ => False
theorem pot_ex {π : Rt} (h : Pot π) : ∃ (ns : List Int) (u m g : Int), π = .lst [.lst (ns.map D.int), .int u, .int m, .int g] ∧ (∀ n ∈ ns, 0 ≤ n) ∧ 0 ≤ u ∧ 0 ≤ m ∧ m < 2147483647 ∧ 0 ≤ g := by
  unfold Pot at h
  split at h
  · obtain ⟨⟨ns, rfl, h1⟩, h2⟩ := h
    exact ⟨ns, _, _, _, rfl, h1, h2⟩
  · exact h.elim
theorem atI_ints {ns : List Int} {i : Int} (h0 : 0 ≤ i) (h1 : i < ns.length) : atI (ns.map D.int) i = some (.int (ns.getD i.toNat 0)) := by
  unfold atI ixN
  have : i.toNat < ns.length := by omega
  simp [h0, h1, this, List.getD]
abbrev potR (ns : List Int) (u m g : Int) : Rt := .lst [.lst (ns.map D.int), .int u, .int m, .int g]
theorem draw_ok {π : Rt} (h : Pot π) {many : Int} (hm : many < 1073741824) : ∃ (k : Int) (π' : Rt), R__law_draw [.int many] π = .ok (.dat (.int k)) π' ∧ Pot π' ∧ 0 ≤ k ∧ (1 ≤ many → k < many) := by
  obtain ⟨ns, u, m, g, rfl, h1, h2, h3, h4, h5⟩ := pot_ex h
  by_cases c1 : many < 2
  · exact ⟨0, _, by simp [R__law_draw, W__law_draw, c1], h, by omega, by omega⟩
  have hd : divOk many = true := by unfold divOk; simp; omega
  have hp : 0 < many := by omega
  by_cases c2 : 0 < g
  · refine ⟨g % many, potR ns u m (g / many), by simp [R__law_draw, W__law_draw, c1, c2, o_mod hp, o_div hd ], ?_, Int.emod_nonneg _ (by omega), fun _ => Int.emod_lt_of_pos _ hp⟩
    exact ⟨⟨ns, rfl, h1⟩, h2, h3, h4, Int.ediv_nonneg (by omega) (by omega)⟩
  have d64 : divOk 64 = true := by decide
  have d7 : divOk 7 = true := by decide
  have hf : fits 48271 = true := by decide
  have hpw : ∀ π, powM (.int 10) (.int 18) π = .ok (.int 1000000000000000000) π := fun _ => rfl
  have h2p : (0 : Int) < 2147483647 := by decide
  have fin : ∀ (c u' : Int), 0 ≤ u' → ∃ (k : Int) (m' : Int), (m' * m' / 64 + m' / 7) % many = k ∧ (m * 48271 + c + 12345) % 2147483647 = m' ∧ 0 ≤ k ∧ k < many ∧ 0 ≤ m' ∧ m' < 2147483647 := fun c u' _ =>
    ⟨_, _, rfl, rfl, Int.emod_nonneg _ (by omega), Int.emod_lt_of_pos _ hp, Int.emod_nonneg _ (by omega), Int.emod_lt_of_pos _ (by omega)⟩
  by_cases c3 : u < (ns.length : Int)
  · have hc := atI_ints h2 c3
    generalize ec : ns.getD u.toNat 0 = c at hc
    have hc0 : 0 ≤ c := by
      have : u.toNat < ns.length := by omega
      rw [← ec, List.getD_eq_getElem?_getD, List.getElem?_eq_getElem this]
      exact h1 _ (List.getElem_mem this)
    by_cases c4 : 1000000000000000000 ≤ c
    · refine ⟨c % many, potR ns (u + 1) m (c / many), by simp [R__law_draw, W__law_draw, c1, c2, c3, c4, o_mod hp, o_div hd , hpw, hc], ?_, Int.emod_nonneg _ (by omega), fun _ => Int.emod_lt_of_pos _ hp⟩
      exact ⟨⟨ns, rfl, h1⟩, by omega, h3, h4, Int.ediv_nonneg (by omega) (by omega)⟩
    · obtain ⟨k, m', e1, e2, e3, e4, e5, e6⟩ := fin c (u + 1) (by omega)
      have hfm : fits m' = true := by unfold fits; simp; omega
      refine ⟨k, potR ns (u + 1) m' g, ?_, ⟨⟨ns, rfl, h1⟩, by omega, e5, e6, h5⟩, e3, fun _ => e4⟩
      simp [R__law_draw, W__law_draw, c1, c2, c3, c4, o_mod hp, o_mod h2p, o_div hd, o_div d64, o_div d7, o_mul, hf, hfm , e1, e2, hpw, hc]
  · obtain ⟨k, m', e1, e2, e3, e4, e5, e6⟩ := fin 0 u h2
    rw [Int.add_zero] at e2
    have hfm : fits m' = true := by unfold fits; simp; omega
    refine ⟨k, potR ns u m' g, ?_, ⟨⟨ns, rfl, h1⟩, h2, e5, e6, h5⟩, e3, fun _ => e4⟩
    simp [R__law_draw, W__law_draw, c1, c2, c3, o_mod hp, o_mod h2p, o_div hd, o_div d64, o_div d7, o_mul, hf, hfm , e1, e2]
theorem pot_ok (ns : List Int) (hl : ns.length ≤ 63) : ∃ xs, R__law_pot [.frz (ns.map D.int)] .no = .ok (.lst xs) .no ∧ Pot (.lst xs) := by
  have e : compGo (gN 1) tYes_ (eCall absM (aCons (eVar 1) aNil)) [some (.dat (.frz (ns.map D.int))), none] (cut (ns.map D.int) none (some 63)) .no = .ok ((cut (ns.map D.int) none (some 63)).map fun d => match d with
    | .int i => .int (if i < 0 then -i else i)
    | d => d) .no := compGo_map _ fun d hd => by
      have : ∃ i : Int, d = .int i := by
        unfold cut at hd
        obtain ⟨i, _, h⟩ := List.mem_map.mp (List.mem_of_mem_drop (List.mem_of_mem_take hd))
        exact ⟨i, h.symm⟩
      obtain ⟨i, rfl⟩ := this
      exact ⟨_, rfl, rfl, by simp⟩
  have hc : cut (ns.map D.int) none (some 63) = ns.map D.int := cut_whole (by simp [HT.sIx]) (by simp [HT.sIx]; omega)
  rw [hc] at e
  have hm : most = 1000000 := rfl
  refine ⟨[.lst (ns.map fun i => .int (if i < 0 then -i else i)), .int 0, .int 20011, .int 0], ?_, ⟨ns.map fun i => if i < 0 then -i else i, by simp, ?_⟩, by decide, by decide, by decide, by decide⟩
  · have h2 : ns.length ≤ most := by rw [hm]; omega
    simp [R__law_pot, W__law_pot, hc, e, h2]
  · intro n hn
    obtain ⟨i, _, rfl⟩ := List.mem_map.mp hn
    split <;> omega
/-- a thing is drawn -/
theorem pick_ok {π : Rt} (h : Pot π) {row : List D} (h1 : row ≠ []) (h2 : row.length < 1000000) : ∃ d ∈ row, ∃ π', R__law_pick [.lst row] π = .ok (.dat d) π' ∧ Pot π' := by
  obtain ⟨k, π', e, hp, k0, k1⟩ := draw_ok h (many := row.length) (by omega)
  have hl : 0 < row.length := List.length_pos_iff.mpr h1
  have k1 := k1 (by omega)
  have hk : k.toNat < row.length := by omega
  refine ⟨row[k.toNat], List.getElem_mem hk, π', ?_, hp⟩
  have ea : atI row k = some row[k.toNat] := atI_get k0 hk
  simp [R__law_pick, W__law_pick, e, ea]
theorem same_in {n : Nat} {xs : List D} {π : Rt} (ih : ∀ d π, fine n d = true → R__law_same (n + 1) [d, d] π = .ok (.dat (.bl true)) π) (h : xs.all (fine n) = true) {a b : D} (ha : ∀ (i : Int) π, ixM a (.int i) π = ofO (atI xs i) π) (hb : ∀ (i : Int) π, ixM b (.int i) π = ofO (atI xs i) π) :
    compGo (gN 2) (tNot_ (eT (eVal (eCall (R__law_same (n + 1)) (aCons (eBin ixM (eVar 0) (eVar 2)) (aCons (eBin ixM (eVar 1) (eVar 2)) aNil)))))) (eVar 2) [some (.dat a), some (.dat b), none] (rng 0 xs.length) π = .ok [] π := by
  have := compGo_filter (g := gN 2) (t := tNot_ (eT (eVal (eCall (R__law_same (n + 1)) (aCons (eBin ixM (eVar 0) (eVar 2)) (aCons (eBin ixM (eVar 1) (eVar 2)) aNil)))))) (f := eVar 2) (ρ := [some (.dat a), some (.dat b), none]) (π := π) (p := fun _ => false) (h := id) (rng 0 xs.length) fun d hd => by
    obtain ⟨i, rfl, h1, h2⟩ := rng_mem hd
    have hi : i.toNat < xs.length := by omega
    have e := ih xs[i.toNat] π (List.all_eq_true.mp h _ (List.getElem_mem hi))
    refine ⟨_, rfl, ?_, fun z => by cases z⟩
    simp [ha, hb, atI_get h1 hi, e]
  rw [List.filter_eq_nil_iff.mpr (fun _ _ => by decide)] at this
  exact this
theorem inR_most {n : Nat} (h : n ≤ most) : DL.inR (n : Int) = true := by
  have e : most = 1000000 := rfl
  rw [e] at h
  unfold DL.inR
  rw [decide_eq_true (by omega), decide_eq_true (by omega)]
  rfl
theorem same_flat (n : Nat) (d : D) (π : Rt) (h : fine 0 d = true) : R__law_same (n + 1) [d, d] π = .ok (.dat (.bl true)) π := by
  rw [R__law_same]
  cases d with
  | non => simp [W__law_same, D.isNon]
  | bl b => simp [W__law_same, D.isNon]
  | int i => simp [W__law_same, D.isNon]
  | str s =>
    have h : PyData.strOk s = true := by unfold fine at h; exact h
    simp [W__law_same, D.isNon, eqB_str h h]
  | _ => cases h
theorem same_step (n : Nat) (π : Rt) (ih : ∀ d π, fine n d = true → R__law_same (n + 1) [d, d] π = .ok (.dat (.bl true)) π) (xs : List D) (h1 : xs.length ≤ most) (h2 : xs.all (fine n) = true) (d : D) (hd : d = .tup xs ∨ d = .lst xs) : R__law_same (n + 1 + 1) [d, d] π = .ok (.dat (.bl true)) π := by
  have hr : DL.inR (xs.length : Int) = true := inR_most h1
  rw [R__law_same]
  rcases hd with rfl | rfl
  · have hc := same_in (π := π) ih h2 (a := .tup xs) (b := .tup xs) (fun i π => rfl) (fun i π => rfl)
    simp [W__law_same, o_rng1 hr, rng_len, h1, hc]
  · have hc := same_in (π := π) ih h2 (a := .lst xs) (b := .lst xs) (fun i π => rfl) (fun i π => rfl)
    simp [W__law_same, o_rng1 hr, rng_len, h1, hc]
theorem same_refl (n : Nat) : ∀ (d : D) (π : Rt), fine n d = true → R__law_same (n + 1) [d, d] π = .ok (.dat (.bl true)) π := by
  induction n with
  | zero => exact fun d π h => same_flat 0 d π h
  | succ n ih =>
    intro d π h
    cases d with
    | tup xs =>
      unfold fine at h
      obtain ⟨h1, h2⟩ := Bool.and_eq_true_iff.mp h
      exact same_step n π ih xs (of_decide_eq_true h1) h2 _ (.inl rfl)
    | lst xs =>
      unfold fine at h
      obtain ⟨h1, h2⟩ := Bool.and_eq_true_iff.mp h
      exact same_step n π ih xs (of_decide_eq_true h1) h2 _ (.inr rfl)
    | non => exact same_flat _ _ π rfl
    | bl b => exact same_flat _ _ π rfl
    | int i => exact same_flat _ _ π rfl
    | str s => exact same_flat _ _ π (by unfold fine at h ⊢; exact h)
    | _ => cases h
theorem out_retR {ρ : Ev} {o : Out RV} : outB (SO.of ρ o (kRetR ρ)) = o := by cases o <;> rfl
theorem soS_retR {ρ ρ' : Ev} {o : Out RV} {u : SM} : soS u (SO.of ρ o (kRetR ρ')) = SO.of ρ o (kRetR ρ') := by cases o <;> rfl
theorem sMk_ok {i : Nat} {w : Ev → EM (List D)} {u : SM} {ρ ρ' : Ev} {xs ys : List D} {d : D} (h1 : w ρ .no = .ok xs .no) (h2 : u (ρ.set i (some .root)) (.lst xs) = .ret (.dat d) ρ' (.lst ys)) : sMk i w u ρ .no = .ret (.dat d) (ρ'.map fun _ => none) .no := by
  simp only [sMk, h1, r_soO, h2]
/-- things that laws hand about: no objects, nothing frozen -/
def D.plain : D → Bool
  | .frz _ => false
  | .obj _ _ => false
  | .raw _ => false
  | _ => true
def isNum (lo hi : Int) : D → Bool
  | .int i => decide (lo ≤ i) && decide (i ≤ hi)
  | _ => false
theorem is_number_ok {d : D} (h : D.plain d = true) (lo hi : Int) (π : Rt) : R_is_number [d, .int lo, .int hi] π = .ok (.dat (.bl (isNum lo hi d))) π := by
  cases d with
  | int i =>
    by_cases c : lo ≤ i <;> simp [R_is_number, W_is_number, isNum, c]
  | frz _ => cases h
  | obj _ _ => cases h
  | raw _ => cases h
  | _ => simp [R_is_number, W_is_number, isNum]
def isRow (least most_ lo hi : Int) : D → Bool
  | .tup xs => decide (least ≤ (xs.length : Int)) && (decide ((xs.length : Int) ≤ most_) && xs.all (isNum lo hi))
  | _ => false
/-- its items are plain -/
def D.plain1 : D → Bool
  | .tup xs => xs.all D.plain && decide (xs.length ≤ 1000)
  | d => D.plain d
theorem asBls_bl (bs : List Bool) : asBls (bs.map D.bl) = some bs := asBls_map bs
theorem fits_sm {i : Int} (h0 : 0 ≤ i) (h1 : i < 2 ^ 63) : fits i = true := by
  unfold fits
  rw [decide_eq_true (by omega), decide_eq_true (by omega)]
  rfl
theorem plain_th {m n : Nat} : ∀ d : D, th m n d = true → D.plain d = true := fun d h => by
  cases d with
  | frz _ => cases n <;> simp [th] at h
  | obj _ _ => cases n <;> simp [th] at h
  | raw _ => cases n <;> simp [th] at h
  | _ => rfl
theorem plain1_th {m n : Nat} (hm : m ≤ 1000) {d : D} (h : th m n d = true) : D.plain1 d = true := by
  cases d with
  | tup xs =>
    cases n with
    | zero => simp [th] at h
    | succ n =>
      obtain ⟨h1, h2⟩ := th_tup.mp h
      show (xs.all D.plain && decide (xs.length ≤ 1000)) = true
      rw [Bool.and_eq_true, decide_eq_true_eq, List.all_eq_true]
      exact ⟨fun x hx => plain_th x (h2 x hx), by omega⟩
  | _ => exact plain_th _ h
theorem rng1_ok {n : Nat} (h : n ≤ 1000) (π : Rt) : rng1M [.int (n : Int)] π = .ok (rng 0 n) π := by
  have hm : most = 1000000 := rfl
  have e := o_rng1 (π := π) (inR_most (n := n) (by omega))
  simpa using e
theorem isNum_in {lo hi i : Int} (h1 : lo ≤ i) (h2 : i ≤ hi) : isNum lo hi (.int i) = true := by
  show (decide (lo ≤ i) && decide (i ≤ hi)) = true
  rw [decide_eq_true h1, decide_eq_true h2]
  rfl
theorem for_items {w : Ev → EM (List D)} {g : GM} {s : SM} {ρ : Ev} {π π1 : Rt} {ds : List D} {o : SO} (h1 : w ρ π = .ok ds π1) (h2 : forGo g s ds ρ π1 = o) : sFor w g s ρ π = o := by
  rw [r_for, h1]
  exact h2
theorem frame (ns : List Int) (hl : ns.length ≤ 63) {m : Nat} {k : Int} (hk : DL.inR k = true) {s : SM} (hs : ∀ (sc : D) (x2 : Option SV) (tl : Ev) (π : Rt), tl.length = m → Pot π → ∃ x2' tl' π', s (some (.dat sc) :: some .root :: x2 :: tl) π = .nx (some (.dat sc) :: some .root :: x2' :: tl') π' ∧ tl'.length = m ∧ Pot π') :
    ∃ ρ' π', sMk 1 (eNew (eCall R__law_pot (aCons (eVar 0) aNil))) (sSeq (sFor (eCall rng1M (aCons (eC (.int k)) aNil)) (gN 2) s) (sRet (eC (.bl true)))) (some (.dat (.frz (ns.map D.int))) :: List.replicate (m + 2) none) .no = .ret (.dat (.bl true)) ρ' π' := by
  obtain ⟨xs, e1, hp⟩ := pot_ok ns hl
  generalize hsc : D.frz (ns.map D.int) = sc at e1
  rw [List.replicate_succ, List.replicate_succ]
  obtain ⟨ρ', π', e, hI⟩ := forGo_all (g := gN 2) (s := s) (I := fun ρ π => (∃ x2 tl, ρ = some (.dat sc) :: some .root :: x2 :: tl ∧ tl.length = m) ∧ Pot π) (rng 0 k.toNat) (some (.dat sc) :: some .root :: none :: List.replicate m none) (.lst xs) ⟨⟨_, _, rfl, List.length_replicate⟩, hp⟩ fun d hd ρ π h => by
    obtain ⟨⟨x2, tl, rfl, hm⟩, h⟩ := h
    obtain ⟨x2', tl', π', e, hm', h'⟩ := hs sc (some (.dat d)) tl π hm h
    exact ⟨_, _, _, rfl, .inl e, ⟨_, _, rfl, hm'⟩, h'⟩
  obtain ⟨ys, rfl⟩ : ∃ ys, π' = .lst ys := by
    cases π' with
    | no => exact hI.2.elim
    | lst ys => exact ⟨ys, rfl⟩
  refine ⟨_, _, sMk_ok (xs := xs) (d := .bl true) (ρ' := ρ') (ys := ys) (by simp [e1]) ?_⟩
  simp [o_rng1 hk, e]
/-! things that are otherwise -/
def rowI (i : Int) : List D := [.int (i + 1), .int (i - 1), .int 10, .int (-10), .int 100, .bl true, .non, .str (toString i), .tup [.int i]]
def rowT (xs : List D) : List D := [.tup (xs ++ cut xs (some (-1)) none), .tup (cut xs (some 1) none), .lst xs, .tup [], .non, .int 3, .str "x", .tup [.tup xs], .tup (cut xs none (some (-1))), .tup (xs ++ [.int 1])]
theorem odd_int {i : Int} (h : i.natAbs < 2 ^ 64) (π : Rt) : R__law_odd [.int i] π = R__law_pick [.lst (rowI i)] π := by
  have h0 : ∀ π, strM [.int i] π = .ok (.str (toString i)) π := fun π => by
    show (if i.natAbs.log2 < 1920 then pure (.str (toString i)) else EM.bad : EM D) π = _
    rw [if_pos (log_64 h)]
    rfl
  simp [R__law_odd, W__law_odd, soS_retR, out_retR, rowI, h0]
theorem odd_tup {xs : List D} (h : xs.length ≤ 100000) (π : Rt) : R__law_odd [.tup xs] π = R__law_pick [.lst (rowT xs)] π := by
  have h0 : ∀ π, addM (.tup xs) (.tup (cut xs (some (-1)) none)) π = .ok (.tup (xs ++ cut xs (some (-1)) none)) π := addT (by have := cut_len xs (some (-1)) none; omega)
  have h1 : ∀ π, addM (.tup xs) (.tup [.int 1]) π = .ok (.tup (xs ++ [.int 1])) π := addT (by simp; omega)
  simp [R__law_odd, W__law_odd, soS_retR, out_retR, rowT, h0, h1]
theorem rowI_th (m n : Nat) (hm : 1 ≤ m) (i : Int) : ∀ d ∈ rowI i, th m (n + 1) d = true := fun d hd => by
  simp only [rowI, List.mem_cons, List.mem_nil_iff, or_false] at hd
  rcases hd with rfl | rfl | rfl | rfl | rfl | rfl | rfl | rfl | rfl
  · simp
  · simp
  · simp
  · simp
  · simp
  · simp
  · simp
  · exact th_str _ _ _ (strOk_of _)
  · exact th_tup.mpr ⟨hm, by simp⟩
theorem rowT_th {m n : Nat} (hm : 1 ≤ m) {xs : List D} (hl : xs.length ≤ m) (h : ∀ x ∈ xs, th m n x = true) : ∀ d ∈ rowT xs, th (m + 1) (n + 2) d = true := fun d hd => by
  have hx : ∀ x ∈ xs, th (m + 1) (n + 1) x = true := fun x hx => th_mono (by omega) _ _ _ (by omega) (h x hx)
  have hx' : ∀ x ∈ xs, th (m + 1) n x = true := fun x hx => th_mono (by omega) _ _ _ (by omega) (h x hx)
  have hc : ∀ a b, ∀ x ∈ cut xs a b, th (m + 1) (n + 1) x = true := fun a b x q => hx x (cut_mem q)
  have hcl : ∀ a b, (cut xs a b).length ≤ m + 1 := fun a b => by have := cut_len xs a b; omega
  have h1 : (cut xs (some (-1)) none).length ≤ 1 := by
    unfold cut
    rw [List.length_take, List.length_drop]
    have : HT.sIx xs.length 0 (some (-1)) = xs.length - 1 := six_neg (k := 1) (by decide)
    rw [this]
    omega
  simp only [rowT, List.mem_cons, List.mem_nil_iff, or_false] at hd
  rcases hd with rfl | rfl | rfl | rfl | rfl | rfl | rfl | rfl | rfl | rfl
  · exact th_tup.mpr ⟨by rw [List.length_append]; omega, fun x q => (List.mem_append.mp q).elim (hx x) (hc _ _ x)⟩
  · exact th_tup.mpr ⟨hcl _ _, hc _ _⟩
  · exact th_lst.mpr ⟨by omega, hx⟩
  · exact th_tup.mpr ⟨Nat.zero_le _, by simp⟩
  · simp
  · simp
  · exact th_str _ _ _ (strOk_of _)
  · exact th_tup.mpr ⟨by simp, fun x q => by cases List.mem_singleton.mp q; exact th_tup.mpr ⟨by omega, hx'⟩⟩
  · exact th_tup.mpr ⟨hcl _ _, hc _ _⟩
  · exact th_tup.mpr ⟨by simp; omega, fun x q => (List.mem_append.mp q).elim (hx x) (fun z => by cases List.mem_singleton.mp z; simp)⟩
theorem odd_ok {m n : Nat} (hm : 1 ≤ m) (hm2 : m ≤ 1000) {d : D} (hd : ti m n d = true) {π : Rt} (h : Pot π) : ∃ r π', R__law_odd [d] π = .ok (.dat r) π' ∧ Pot π' ∧ th (m + 1) (n + 1) r = true := by
  cases d with
  | int i =>
    have hi : i.natAbs < 2 ^ 64 := by cases n <;> simpa [ti] using hd
    obtain ⟨r, hr, π', e, hp⟩ := pick_ok h (row := rowI i) (by simp [rowI]) (by simp [rowI])
    exact ⟨r, π', (odd_int hi π).trans e, hp, rowI_th _ _ (by omega) i r hr⟩
  | tup xs =>
    cases n with
    | zero => simp [ti] at hd
    | succ n =>
      obtain ⟨h1, h2⟩ := ti_tup.mp hd
      obtain ⟨r, hr, π', e, hp⟩ := pick_ok h (row := rowT xs) (by simp [rowT]) (by simp [rowT])
      exact ⟨r, π', (odd_tup (by omega) π).trans e, hp, rowT_th hm h1 (fun x hx => ti_th n x (h2 x hx)) r hr⟩
  | _ => cases n <;> simp [ti] at hd
theorem bent_ok {m : Nat} (hm : 1 ≤ m) (hm2 : m ≤ 1000) : ∀ (left k n : Nat) (d : D), left < k → ti m n d = true → ∀ π, Pot π → ∃ r π', R__law_bent k [d, .int left] π = .ok (.dat r) π' ∧ Pot π' ∧ th (m + 1) (n + 1) r = true
  | left, 0, n, d, hk, _, _, _ => by omega
  | left, k + 1, n, d, hk, hd, π, hp => by
    rw [R__law_bent]
    cases d with
    | int i =>
      obtain ⟨r, π', e, h1, h2⟩ := odd_ok hm hm2 hd hp
      exact ⟨r, π', by simp [W__law_bent, soS_retR, out_retR, e], h1, h2⟩
    | tup xs =>
      obtain ⟨r, π', e, h1, h2⟩ := odd_ok hm hm2 hd hp
      cases n with
      | zero => simp [ti] at hd
      | succ n =>
        obtain ⟨g1, g2⟩ := ti_tup.mp hd
        by_cases c1 : 0 < xs.length
        · cases left with
          | zero => exact ⟨r, π', by simp [W__law_bent, soS_retR, out_retR, e, c1], h1, h2⟩
          | succ left =>
            obtain ⟨z, π1, d1, p1, z0, _⟩ := draw_ok hp (many := 5) (by decide)
            by_cases c2 : 0 < z
            · obtain ⟨at_, π2, d2, p2, a0, a1⟩ := draw_ok p1 (many := (xs.length : Int)) (by omega)
              have a1 := a1 (by omega)
              obtain ⟨k2, rfl⟩ : ∃ k : Nat, at_ = k := ⟨at_.toNat, by omega⟩
              have hx : k2 < xs.length := by omega
              obtain ⟨q, π3, d3, p3, t3⟩ := bent_ok hm hm2 left k n xs[k2] (by omega) (g2 _ (List.getElem_mem hx)) π2 p2
              have ea : atI xs k2 = some xs[k2] := atI_get (by omega) (by simpa using hx)
              have hc : (((left + 1 : Nat) : Int) - 1) = left := by omega
              have e7 := put_okD xs hx (by omega) q (eVar 1) (eVar 3) (eVar 4) [some .root, some (.dat (.tup xs)), some (.dat (.int ((left + 1 : Nat) : Int))), some (.dat (.int k2)), some (.dat q)] π3 rfl rfl rfl
              have hl0 : (0 : Int) < ((left + 1 : Nat) : Int) := by omega
              generalize ((left + 1 : Nat) : Int) = lf at *
              refine ⟨.tup (xs.set k2 q), π3, ?_, p3, th_tup.mpr ⟨by rw [List.length_set]; omega, fun x hx => ?_⟩⟩
              · rw [W__law_bent]
                simp only [DL.putW_def]
                simp [soS_retR, out_retR, c1, hl0, c2, d1, d2, ea, hc, d3, e7]
              · rcases List.mem_or_eq_of_mem_set hx with z | rfl
                · exact th_mono (by omega) n _ x (by omega) (ti_th n x (g2 x z))
                · exact t3
            · obtain ⟨r, π', e, h1, h2⟩ := odd_ok hm hm2 hd p1
              have hl0 : (0 : Int) < ((left + 1 : Nat) : Int) := by omega
              generalize ((left + 1 : Nat) : Int) = lf at *
              exact ⟨r, π', by simp [W__law_bent, soS_retR, out_retR, e, c1, c2, d1, hl0], h1, h2⟩
        · exact ⟨r, π', by simp [W__law_bent, soS_retR, out_retR, e, c1], h1, h2⟩
    | _ => cases n <;> simp [ti] at hd
/-! things with texts in them -/
def tsB (m : Nat) : Nat → D → Bool
  | _, .int i => decide (i.natAbs < 2 ^ 64)
  | _, .str s => PyData.strOk s && decide (s.length ≤ 1000)
  | n + 1, .tup xs => decide (xs.length ≤ m) && xs.all (tsB m n)
  | _, _ => false
theorem ts_tup {m n : Nat} {xs : List D} : tsB m (n + 1) (.tup xs) = true ↔ xs.length ≤ m ∧ ∀ x ∈ xs, tsB m n x = true := by
  rw [tsB, Bool.and_eq_true, decide_eq_true_eq, List.all_eq_true]
theorem ts_th {m : Nat} : ∀ (n : Nat) (d : D), tsB m n d = true → th m n d = true
  | n, .int i, _ => th_int _ _ i
  | n, .str s, h => th_str _ _ s (by cases n <;> (simp only [tsB, Bool.and_eq_true] at h; exact h.1))
  | 0, .tup xs, h => by simp [tsB] at h
  | n + 1, .tup xs, h => by
    rw [ts_tup] at h
    rw [th_tup]
    exact ⟨h.1, fun x hx => ts_th n x (h.2 x hx)⟩
  | n, .non, h => by cases n <;> simp [tsB] at h
  | n, .bl _, h => by cases n <;> simp [tsB] at h
  | n, .lst _, h => by cases n <;> simp [tsB] at h
  | n, .dct _, h => by cases n <;> simp [tsB] at h
  | n, .frz _, h => by cases n <;> simp [tsB] at h
  | n, .obj _ _, h => by cases n <;> simp [tsB] at h
  | n, .raw _, h => by cases n <;> simp [tsB] at h
def rowS (s : Str) : List D := [.str (s ++ "a"), .str (cutS s (some 1) none), .str "", .str "A", .int 0, .non, .tup [.str s], .lst [.str s], .str "abcdefghi"]
theorem odd_str {s : Str} (h : s.length ≤ 1000) (π : Rt) : R__law_odd [.str s] π = R__law_pick [.lst (rowS s)] π := by
  have hz : (1001 : Nat) ≤ sizeLine := by decide
  have h0 : ∀ π, addM (.str s) (.str "a") π = .ok (.str (s ++ "a")) π := fun π => by
    show (if s.length + ("a" : Str).length ≤ sizeLine then pure (.str (s ++ "a")) else EM.bad : EM D) π = _
    rw [if_pos (by show s.length + 1 ≤ sizeLine; omega)]
    rfl
  have h1 : ∀ π, slM (.str s) (some 1) none π = .ok (.str (cutS s (some 1) none)) π := fun π => by
    show (if s.length ≤ sizeLine then pure (.str (cutS s (some 1) none)) else EM.bad : EM D) π = _
    rw [if_pos (by omega)]
    rfl
  simp [R__law_odd, W__law_odd, soS_retR, out_retR, rowS, h0, h1]
theorem strOk_app {s z : Str} (h1 : PyData.strOk s = true) (h2 : PyData.strOk z = true) : PyData.strOk (s ++ z) = true := by
  unfold PyData.strOk at *
  rw [Str.cps_append, Array.all_append, h1, h2]
  rfl
theorem strOk_cut {s : Str} (h : PyData.strOk s = true) (lo hi : Option Int) : PyData.strOk (cutS s lo hi) = true := by
  unfold PyData.strOk at *
  unfold cutS
  rw [← Array.all_toList] at h ⊢
  rw [List.all_eq_true] at h ⊢
  intro c hc
  exact h c (List.mem_of_mem_drop (List.mem_of_mem_take hc))
theorem rowS_th (m n : Nat) (hm : 1 ≤ m) {s : Str} (hs : PyData.strOk s = true) : ∀ d ∈ rowS s, th m (n + 1) d = true := fun d hd => by
  simp only [rowS, List.mem_cons, List.mem_nil_iff, or_false] at hd
  rcases hd with rfl | rfl | rfl | rfl | rfl | rfl | rfl | rfl | rfl
  · exact th_str _ _ _ (strOk_app hs (strOk_of _))
  · exact th_str _ _ _ (strOk_cut hs _ _)
  · exact th_str _ _ _ (strOk_of _)
  · exact th_str _ _ _ (strOk_of _)
  · simp
  · simp
  · exact th_tup.mpr ⟨hm, fun x hx => by cases List.mem_singleton.mp hx; exact th_str _ _ _ hs⟩
  · exact th_lst.mpr ⟨hm, fun x hx => by cases List.mem_singleton.mp hx; exact th_str _ _ _ hs⟩
  · exact th_str _ _ _ (strOk_of _)
theorem odd_okS {m n : Nat} (hm : 1 ≤ m) (hm2 : m ≤ 1000) {d : D} (hd : tsB m n d = true) {π : Rt} (h : Pot π) : ∃ r π', R__law_odd [d] π = .ok (.dat r) π' ∧ Pot π' ∧ th (m + 1) (n + 1) r = true := by
  cases d with
  | int i =>
    have hi : i.natAbs < 2 ^ 64 := by cases n <;> simpa [tsB] using hd
    obtain ⟨r, hr, π', e, hp⟩ := pick_ok h (row := rowI i) (by simp [rowI]) (by simp [rowI])
    exact ⟨r, π', (odd_int hi π).trans e, hp, rowI_th _ _ (by omega) i r hr⟩
  | str s =>
    have hs : PyData.strOk s = true ∧ s.length ≤ 1000 := by cases n <;> simpa [tsB] using hd
    obtain ⟨r, hr, π', e, hp⟩ := pick_ok h (row := rowS s) (by simp [rowS]) (by simp [rowS])
    exact ⟨r, π', (odd_str hs.2 π).trans e, hp, rowS_th _ _ (by omega) hs.1 r hr⟩
  | tup xs =>
    cases n with
    | zero => simp [tsB] at hd
    | succ n =>
      obtain ⟨h1, h2⟩ := ts_tup.mp hd
      obtain ⟨r, hr, π', e, hp⟩ := pick_ok h (row := rowT xs) (by simp [rowT]) (by simp [rowT])
      exact ⟨r, π', (odd_tup (by omega) π).trans e, hp, rowT_th hm h1 (fun x hx => ts_th n x (h2 x hx)) r hr⟩
  | _ => cases n <;> simp [tsB] at hd
theorem bent_okS {m : Nat} (hm : 1 ≤ m) (hm2 : m ≤ 1000) : ∀ (left k n : Nat) (d : D), left < k → tsB m n d = true → ∀ π, Pot π → ∃ r π', R__law_bent k [d, .int left] π = .ok (.dat r) π' ∧ Pot π' ∧ th (m + 1) (n + 1) r = true
  | left, 0, n, d, hk, _, _, _ => by omega
  | left, k + 1, n, d, hk, hd, π, hp => by
    rw [R__law_bent]
    cases d with
    | int i =>
      obtain ⟨r, π', e, h1, h2⟩ := odd_okS hm hm2 hd hp
      exact ⟨r, π', by simp [W__law_bent, soS_retR, out_retR, e], h1, h2⟩
    | str s =>
      obtain ⟨r, π', e, h1, h2⟩ := odd_okS hm hm2 hd hp
      exact ⟨r, π', by simp [W__law_bent, soS_retR, out_retR, e], h1, h2⟩
    | tup xs =>
      obtain ⟨r, π', e, h1, h2⟩ := odd_okS hm hm2 hd hp
      cases n with
      | zero => simp [tsB] at hd
      | succ n =>
        obtain ⟨g1, g2⟩ := ts_tup.mp hd
        by_cases c1 : 0 < xs.length
        · cases left with
          | zero => exact ⟨r, π', by simp [W__law_bent, soS_retR, out_retR, e, c1], h1, h2⟩
          | succ left =>
            obtain ⟨z, π1, d1, p1, z0, _⟩ := draw_ok hp (many := 5) (by decide)
            by_cases c2 : 0 < z
            · obtain ⟨at_, π2, d2, p2, a0, a1⟩ := draw_ok p1 (many := (xs.length : Int)) (by omega)
              have a1 := a1 (by omega)
              obtain ⟨k2, rfl⟩ : ∃ k : Nat, at_ = k := ⟨at_.toNat, by omega⟩
              have hx : k2 < xs.length := by omega
              obtain ⟨q, π3, d3, p3, t3⟩ := bent_okS hm hm2 left k n xs[k2] (by omega) (g2 _ (List.getElem_mem hx)) π2 p2
              have ea : atI xs k2 = some xs[k2] := atI_get (by omega) (by simpa using hx)
              have hc : (((left + 1 : Nat) : Int) - 1) = left := by omega
              have e7 := put_okD xs hx (by omega) q (eVar 1) (eVar 3) (eVar 4) [some .root, some (.dat (.tup xs)), some (.dat (.int ((left + 1 : Nat) : Int))), some (.dat (.int k2)), some (.dat q)] π3 rfl rfl rfl
              have hl0 : (0 : Int) < ((left + 1 : Nat) : Int) := by omega
              generalize ((left + 1 : Nat) : Int) = lf at *
              refine ⟨.tup (xs.set k2 q), π3, ?_, p3, th_tup.mpr ⟨by rw [List.length_set]; omega, fun x hx => ?_⟩⟩
              · rw [W__law_bent]
                simp only [DL.putW_def]
                simp [soS_retR, out_retR, c1, hl0, c2, d1, d2, ea, hc, d3, e7]
              · rcases List.mem_or_eq_of_mem_set hx with z | rfl
                · exact th_mono (by omega) n _ x (by omega) (ts_th n x (g2 x z))
                · exact t3
            · obtain ⟨r, π', e, h1, h2⟩ := odd_okS hm hm2 hd p1
              have hl0 : (0 : Int) < ((left + 1 : Nat) : Int) := by omega
              generalize ((left + 1 : Nat) : Int) = lf at *
              exact ⟨r, π', by simp [W__law_bent, soS_retR, out_retR, e, c1, c2, d1, hl0], h1, h2⟩
        · exact ⟨r, π', by simp [W__law_bent, soS_retR, out_retR, e, c1], h1, h2⟩
    | _ => cases n <;> simp [tsB] at hd
end G_k12

namespace G_k12
open PySem PySem.Spec PyProof.Rows L2 LamX DL
/-! numbers that are asked for -/
theorem need_number_ok {d : D} (h : D.plain d = true) (lo hi : Int) (π : Rt) : R_need_number [d, .int lo, .int hi] π = if isNum lo hi d = true then .ok (.dat d) π else .exc ⟨"BadNumber", [("value", d)]⟩ π := by
  have e := is_number_ok h lo hi π
  cases hn : isNum lo hi d with
  | true =>
    rw [hn] at e
    simp [R_need_number, W_need_number, e]
  | false =>
    rw [hn] at e
    simp [R_need_number, W_need_number, e]
/-! plots, layouts -/
def plD (p : Int × Int) : D := .tup [.int p.1, .int p.2]
def isPl : D → Bool
  | .tup [.int s, .int l] => decide (0 ≤ s) && (decide (0 < l) && decide (s + l ≤ 24))
  | _ => false
theorem isPl_ex {d : D} (h : isPl d = true) : ∃ s l : Int, d = .tup [.int s, .int l] ∧ 0 ≤ s ∧ 0 < l ∧ s + l ≤ 24 := by
  unfold isPl at h
  split at h
  · simp only [Bool.and_eq_true, decide_eq_true_eq] at h
    exact ⟨_, _, rfl, h.1, h.2.1, h.2.2⟩
  · cases h
theorem isPl_mk {s l : Int} (h1 : 0 ≤ s) (h2 : 0 < l) (h3 : s + l ≤ 24) : isPl (.tup [.int s, .int l]) = true := by
  show (decide (0 ≤ s) && (decide (0 < l) && decide (s + l ≤ 24))) = true
  rw [decide_eq_true h1, decide_eq_true h2, decide_eq_true h3]
  rfl
theorem row2 {d : D} (h : isRow 2 2 0 24 d = true) : ∃ s l : Int, d = .tup [.int s, .int l] ∧ (0 ≤ s ∧ s ≤ 24) ∧ 0 ≤ l ∧ l ≤ 24 := by
  cases d with
  | tup xs =>
    have h : (decide ((2 : Int) ≤ (xs.length : Int)) && (decide ((xs.length : Int) ≤ 2) && xs.all (isNum 0 24))) = true := h
    simp only [Bool.and_eq_true, decide_eq_true_eq] at h
    obtain ⟨h1, h2, h3⟩ := h
    match xs, h1, h2, h3 with
    | [], h1, _, _ => simp at h1
    | [a], h1, _, _ => simp at h1
    | [a, b], _, _, h3 =>
      simp only [List.all_cons, List.all_nil, Bool.and_true, Bool.and_eq_true] at h3
      obtain ⟨ha, hb⟩ := h3
      cases a with
      | int s =>
        cases b with
        | int l =>
          have ha : (decide (0 ≤ s) && decide (s ≤ 24)) = true := ha
          have hb : (decide (0 ≤ l) && decide (l ≤ 24)) = true := hb
          simp only [Bool.and_eq_true, decide_eq_true_eq] at ha hb
          exact ⟨s, l, rfl, ha, hb⟩
        | _ => cases hb
      | _ => cases ha
    | a :: b :: c :: r, _, h2, _ => simp at h2; omega
  | _ => cases h
theorem row2_mk {s l : Int} (h1 : 0 ≤ s) (h2 : s ≤ 24) (h3 : 0 ≤ l) (h4 : l ≤ 24) : isRow 2 2 0 24 (.tup [.int s, .int l]) = true := by
  show (decide ((2 : Int) ≤ 2) && (decide ((2 : Int) ≤ 2) && (isNum 0 24 (.int s) && (isNum 0 24 (.int l) && true)))) = true
  rw [isNum_in h1 h2, isNum_in h3 h4]
  rfl
theorem end_ok (s l : Int) (π : Rt) : R_end_of [.tup [.int s, .int l]] π = .ok (.dat (.int (s + l))) π := by
  have a0 : atI [D.int s, .int l] 0 = some (.int s) := rfl
  have a1 : atI [D.int s, .int l] 1 = some (.int l) := rfl
  simp [R_end_of, W_end_of, a0, a1]
/-- an ascending row of plots from a place on -/
def laidB : Int → List D → Bool
  | _, [] => true
  | last, d :: r => isPl d && (match d with
    | .tup [.int s, .int l] => decide (last ≤ s) && laidB (s + l) r
    | _ => false)
def isLay : D → Bool
  | .tup xs => laidB 0 xs
  | _ => false
theorem laidB_cons (last s l : Int) (r : List D) : laidB last (.tup [.int s, .int l] :: r) = (isPl (.tup [.int s, .int l]) && (decide (last ≤ s) && laidB (s + l) r)) := by rw [laidB]
theorem laidB_pl {last : Int} {d : D} {r : List D} (h : isPl d = false) : laidB last (d :: r) = false := by
  unfold laidB
  rw [h, Bool.false_and]
def chainB : List (Int × Int) → Bool
  | p :: q :: r => decide (p.1 + p.2 ≤ q.1) && chainB (q :: r)
  | _ => true
theorem laidB_chain : ∀ (ps : List (Int × Int)) (last : Int), (∀ p ∈ ps, isPl (plD p) = true) → (∀ p r, ps = p :: r → last ≤ p.1) → laidB last (ps.map plD) = chainB ps
  | [], _, _, _ => rfl
  | [p], last, h, hl => by
    show laidB last [.tup [.int p.1, .int p.2]] = true
    rw [laidB_cons, show isPl (.tup [.int p.1, .int p.2]) = true from h p List.mem_cons_self, decide_eq_true (hl p [] rfl)]
    rfl
  | p :: q :: r, last, h, hl => by
    show laidB last (.tup [.int p.1, .int p.2] :: (q :: r).map plD) = _
    rw [laidB_cons, show isPl (.tup [.int p.1, .int p.2]) = true from h p List.mem_cons_self, decide_eq_true (hl p _ rfl), chainB]
    by_cases c : p.1 + p.2 ≤ q.1
    · rw [laidB_chain (q :: r) (p.1 + p.2) (fun z hz => h z (List.mem_cons_of_mem _ hz)) (fun a b e => by cases e; exact c), decide_eq_true c]
      rfl
    · rw [decide_eq_false c]
      show laidB (p.1 + p.2) (.tup [.int q.1, .int q.2] :: r.map plD) = false
      rw [laidB_cons, decide_eq_false c, Bool.false_and, Bool.and_false]
theorem plots_of : ∀ xs : List D, xs.all isPl = true → ∃ ps : List (Int × Int), xs = ps.map plD ∧ ∀ p ∈ ps, isPl (plD p) = true
  | [], _ => ⟨[], rfl, fun _ z => by cases z⟩
  | x :: r, h => by
    rw [List.all_cons, Bool.and_eq_true] at h
    obtain ⟨ps, rfl, hp⟩ := plots_of r h.2
    obtain ⟨s, l, rfl, _⟩ := isPl_ex h.1
    refine ⟨(s, l) :: ps, rfl, fun p hp' => ?_⟩
    rcases List.mem_cons.mp hp' with rfl | q
    · exact h.1
    · exact hp p q
theorem laidB_all : ∀ (xs : List D) (last : Int), laidB last xs = true → xs.all isPl = true
  | [], _, _ => rfl
  | d :: r, last, h => by
    cases hp : isPl d with
    | false => rw [laidB_pl hp] at h; cases h
    | true =>
      obtain ⟨s, l, rfl, _⟩ := isPl_ex hp
      rw [laidB_cons, Bool.and_eq_true, Bool.and_eq_true] at h
      rw [List.all_cons, hp, laidB_all r _ h.2.2]
      rfl
def pairsD (ps : List (Int × Int)) : List D := ((ps.map plD).zip ((ps.map plD).drop 1)).map fun p => D.tup [p.1, p.2]
def leqD : D → D
  | .tup [.tup [.int s, .int l], .tup [.int a, _]] => .bl (decide (s + l ≤ a))
  | d => d
theorem pairs_chain : ∀ ps : List (Int × Int), ∃ bs : List Bool, (pairsD ps).map leqD = bs.map D.bl ∧ bs.all id = chainB ps ∧ (pairsD ps).length ≤ ps.length ∧ ∀ d ∈ pairsD ps, ∃ p q : Int × Int, d = .tup [plD p, plD q]
  | [] => ⟨[], rfl, rfl, Nat.le_refl _, fun _ z => by cases z⟩
  | [p] => ⟨[], rfl, rfl, Nat.zero_le _, fun _ z => by cases z⟩
  | p :: q :: r => by
    obtain ⟨bs, h1, h2, h3, h4⟩ := pairs_chain (q :: r)
    have e : pairsD (p :: q :: r) = .tup [plD p, plD q] :: pairsD (q :: r) := rfl
    refine ⟨decide (p.1 + p.2 ≤ q.1) :: bs, ?_, ?_, ?_, ?_⟩
    · rw [e, List.map_cons, h1]
      rfl
    · rw [List.all_cons, h2, chainB]
      rfl
    · rw [e]
      simp only [List.length_cons] at h3 ⊢
      omega
    · rw [e]
      intro d hd
      rcases List.mem_cons.mp hd with rfl | hd
      · exact ⟨p, q, rfl⟩
      · exact h4 d hd
theorem allM_bls (bs : List Bool) (π : Rt) : allM [.lst (bs.map D.bl)] π = .ok (.bl (bs.all id)) π := by
  show ofO ((asBls (bs.map D.bl)).map fun bs => D.bl (bs.all id)) π = _
  rw [asBls_map]
  rfl
theorem for_seq {w : Ev → EM (List D)} {g : GM} {s u : SM} {ρ : Ev} {π π1 : Rt} {ds : List D} (h1 : w ρ π = .ok ds π1) : sSeq (sFor w g s) u ρ π = soS u (forGo g s ds ρ π1) := by
  rw [r_seq, r_for, h1]
  rfl
/-! layouts that are drawn -/
def layP (hi : Int) : Int → List (Int × Int) → Prop
  | _, [] => True
  | lo, p :: r => lo ≤ p.1 ∧ 0 < p.2 ∧ p.1 + p.2 ≤ hi ∧ layP hi (p.1 + p.2) r
def endP : Int → List (Int × Int) → Int
  | lo, [] => lo
  | _, p :: r => endP (p.1 + p.2) r
theorem layP_snoc {hi : Int} : ∀ (ps : List (Int × Int)) (lo a l : Int), layP hi lo ps → endP lo ps ≤ a → 0 < l → a + l ≤ hi → layP hi lo (ps ++ [(a, l)]) ∧ endP lo (ps ++ [(a, l)]) = a + l
  | [], lo, a, l, _, h1, h2, h3 => ⟨⟨h1, h2, h3, trivial⟩, rfl⟩
  | p :: r, lo, a, l, h, h1, h2, h3 => by
    obtain ⟨q1, q2, q3, q4⟩ := h
    obtain ⟨i1, i2⟩ := layP_snoc r (p.1 + p.2) a l q4 h1 h2 h3
    exact ⟨⟨q1, q2, q3, i1⟩, i2⟩
theorem layP_laidB {hi : Int} (h24 : hi ≤ 24) : ∀ (ps : List (Int × Int)) (lo : Int), 0 ≤ lo → layP hi lo ps → laidB lo (ps.map plD) = true
  | [], _, _, _ => rfl
  | p :: r, lo, h0, h => by
    obtain ⟨q1, q2, q3, q4⟩ := h
    show laidB lo (.tup [.int p.1, .int p.2] :: r.map plD) = true
    rw [laidB_cons, isPl_mk (by omega) q2 (by omega), decide_eq_true q1, layP_laidB h24 r _ (by omega) q4]
    rfl
theorem layP_mem {hi : Int} : ∀ (ps : List (Int × Int)) (lo : Int), layP hi lo ps → ∀ p ∈ ps, lo ≤ p.1 ∧ 0 < p.2 ∧ p.1 + p.2 ≤ hi
  | [], _, _, _, z => by cases z
  | q :: r, lo, h, p, hp => by
    obtain ⟨q1, q2, q3, q4⟩ := h
    rcases List.mem_cons.mp hp with rfl | hp
    · exact ⟨q1, q2, q3⟩
    · have := layP_mem r _ q4 p hp
      omega
theorem lay_ti {hi : Int} (h24 : hi ≤ 1000) {ps : List (Int × Int)} (h : layP hi 0 ps) {m : Nat} (hm : 2 ≤ m) (hl : ps.length ≤ m) : ti m 2 (.tup (ps.map plD)) = true := by
  refine ti_tup.mpr ⟨by simpa using hl, fun x hx => ?_⟩
  obtain ⟨p, hp, rfl⟩ := List.mem_map.mp hx
  obtain ⟨q1, q2, q3⟩ := layP_mem ps 0 h p hp
  refine ti_tup.mpr ⟨by simpa using hm, fun y hy => ?_⟩
  simp only [List.mem_cons, List.mem_nil_iff, or_false] at hy
  rcases hy with rfl | rfl
  · show decide (p.1.natAbs < 2 ^ 64) = true
    rw [decide_eq_true_eq]
    omega
  · show decide (p.2.natAbs < 2 ^ 64) = true
    rw [decide_eq_true_eq]
    omega
end G_k12

namespace G_k12
open PySem PySem.Spec PyProof.Rows L2 LamX DL
/-! tops -/
theorem endP_ge {hi : Int} : ∀ (ps : List (Int × Int)) (lo : Int), layP hi lo ps → lo ≤ endP lo ps
  | [], lo, _ => Int.le_refl _
  | p :: r, lo, h => by
    obtain ⟨h1, h2, h3, h4⟩ := h
    have := endP_ge r _ h4
    show lo ≤ endP (p.1 + p.2) r
    omega
theorem endP_le {hi : Int} : ∀ (ps : List (Int × Int)) (lo : Int), lo ≤ hi → layP hi lo ps → endP lo ps ≤ hi
  | [], lo, h0, _ => h0
  | p :: r, lo, h0, h => by
    obtain ⟨h1, h2, h3, h4⟩ := h
    exact endP_le r _ h3 h4
theorem layP_top {hi : Int} : ∀ (ps : List (Int × Int)) (lo f : Int), layP hi lo ps → endP lo ps ≤ f → layP f lo ps
  | [], _, _, _, _ => trivial
  | p :: r, lo, f, h, hf => by
    obtain ⟨h1, h2, h3, h4⟩ := h
    have := endP_ge r _ h4
    have hf : endP (p.1 + p.2) r ≤ f := hf
    exact ⟨h1, h2, by omega, layP_top r _ f h4 hf⟩
theorem endP_last : ∀ (ps : List (Int × Int)) (lo : Int) (p : Int × Int), endP lo (ps ++ [p]) = p.1 + p.2
  | [], _, _ => rfl
  | q :: r, _, p => endP_last r (q.1 + q.2) p
theorem atI_last {α : Type} (xs : List α) (a : α) : atI (xs ++ [a]) (-1) = some a := by
  unfold atI ixN
  rw [if_neg (by omega), if_pos (by simp; omega)]
  have e : ((-1 : Int) + ((xs ++ [a]).length : Nat)).toNat = xs.length := by simp; omega
  simp only [Option.bind_some]
  rw [show ((-1 : Int) + ((xs ++ [a]).length : Nat)).toNat = xs.length from e, List.getElem?_append_right (Nat.le_refl _)]
  simp
theorem snoc_of {α : Type} (xs : List α) (h : xs ≠ []) : ∃ ys a, xs = ys ++ [a] := ⟨xs.dropLast, xs.getLast h, (List.dropLast_concat_getLast h).symm⟩
theorem top_ok (ps : List (Int × Int)) (π : Rt) : R_top_of [.tup (ps.map plD)] π = .ok (.dat (.int (endP 0 ps))) π := by
  by_cases c : ps = []
  · subst c
    simp [R_top_of, W_top_of, endP]
  · obtain ⟨qs, p, rfl⟩ := snoc_of ps c
    have e1 : atI ((qs ++ [p]).map plD) (-1) = some (.tup [.int p.1, .int p.2]) := by
      rw [List.map_append]
      exact atI_last _ _
    have e2 := end_ok p.1 p.2
    have hl : 0 < ((qs ++ [p]).map plD).length := by simp
    rw [endP_last]
    generalize (qs ++ [p]).map plD = zs at *
    simp [R_top_of, W_top_of, hl, e1, e2]
theorem max_ends {hi : Int} : ∀ (ps : List (Int × Int)) (lo : Int), layP hi lo ps → maxL (lo :: ps.map fun p => p.1 + p.2) = endP lo ps := by
  have key : ∀ (ps : List (Int × Int)) (lo : Int), layP hi lo ps → (∀ p ∈ ps, p.1 + p.2 ≤ endP lo ps) ∧ (endP lo ps = lo ∨ ∃ p ∈ ps, endP lo ps = p.1 + p.2) := by
    intro ps
    induction ps with
    | nil => exact fun lo _ => ⟨fun p z => absurd z (List.not_mem_nil), Or.inl rfl⟩
    | cons q r ih =>
      intro lo h
      obtain ⟨h1, h2, h3, h4⟩ := h
      obtain ⟨i1, i2⟩ := ih _ h4
      refine ⟨fun p hp => ?_, .inr ?_⟩
      · rcases List.mem_cons.mp hp with rfl | hp
        · exact endP_ge r _ h4
        · exact i1 p hp
      · rcases i2 with e | ⟨p, hp, e⟩
        · exact ⟨q, List.mem_cons_self, e⟩
        · exact ⟨p, List.mem_cons_of_mem _ hp, e⟩
  intro ps lo h
  obtain ⟨k1, k2⟩ := key ps lo h
  have hg := endP_ge ps lo h
  apply Int.le_antisymm
  · have hm := maxL_mem (l := lo :: ps.map fun p => p.1 + p.2) (by simp)
    rcases List.mem_cons.mp hm with e | hm
    · rw [e]; exact hg
    · obtain ⟨p, hp, e⟩ := List.mem_map.mp hm
      rw [← e]
      exact k1 p hp
  · rcases k2 with e | ⟨p, hp, e⟩
    · rw [e]
      exact maxL_ge List.mem_cons_self
    · rw [e]
      exact maxL_ge (List.mem_cons_of_mem _ (List.mem_map.mpr ⟨p, hp, rfl⟩))
theorem maxM_ok (ns : List Int) (h : ns ≠ []) (π : Rt) : maxM [.lst (ns.map D.int)] π = .ok (.int (maxL ns)) π := by
  show ofO (((asInts (ns.map D.int)).bind ne1).map fun ns => D.int (maxL ns)) π = _
  rw [asInts_map, Option.bind_some]
  unfold ne1
  rw [if_neg (by simpa using h)]
  rfl
theorem law_top_ok {hi : Int} {ps : List (Int × Int)} (h : layP hi 0 ps) (hl : ps.length ≤ 1000) (π : Rt) : R__law_top [.tup (ps.map plD)] π = .ok (.dat (.int (endP 0 ps))) π := by
  have hm : most = 1000000 := rfl
  have hpm : ps.length ≤ most := by omega
  have hz : (1001 : Nat) ≤ sizeLine := by decide
  have c1 : compGo (gT 2 (gCons_ (gN 1) (gCons_ (gN 2) gNil_))) tYes_ (eBin addM (eVar 1) (eVar 2)) [some (.dat (.tup (ps.map plD))), none, none] (ps.map plD) π = .ok ((ps.map fun p => p.1 + p.2).map D.int) π := by
    refine (compGo_map (h := fun d => match d with
      | .tup [.int a, .int b] => .int (a + b)
      | d => d) _ fun d hd => ?_).trans ?_
    · obtain ⟨p, _, rfl⟩ := List.mem_map.mp hd
      exact ⟨_, rfl, rfl, by simp [plD]⟩
    · rw [List.map_map, List.map_map]
      rfl
  have e1 : ∀ π, addM (.lst [.int 0]) (.lst ((ps.map fun p => p.1 + p.2).map D.int)) π = .ok (.lst ((0 :: ps.map fun p => p.1 + p.2).map D.int)) π := fun π => by
    show ((if [D.int 0].length + ((ps.map fun p => p.1 + p.2).map D.int).length ≤ sizeLine then pure (.lst ([.int 0] ++ (ps.map fun p => p.1 + p.2).map D.int)) else EM.bad : EM D) π) = _
    rw [if_pos (by simp; omega)]
    rfl
  have e2 := maxM_ok (0 :: ps.map fun p => p.1 + p.2) (by simp) π
  rw [max_ends ps 0 h] at e2
  generalize (ps.map fun p => p.1 + p.2).map D.int = zs at *
  generalize (0 :: ps.map fun p => p.1 + p.2).map D.int = ws at *
  simp [R__law_top, W__law_top, hpm, c1, e1, e2]
end G_k12

namespace G_k12
open PySem PySem.Spec PyProof.Rows L2 LamX DL
/-! gaps -/
def gapL : Int → List (Int × Int) → List (Int × Int)
  | _, [] => []
  | lo, p :: r => (if lo < p.1 then [(lo, p.1 - lo)] else []) ++ gapL (p.1 + p.2) r
def liveP : List (Int × Int) → Int
  | [] => 0
  | p :: r => p.2 + liveP r
def onB (k : Int) (p : Int × Int) : Bool := decide (p.1 ≤ k) && decide (k < p.1 + p.2)
def freeB (ps : List (Int × Int)) (k : Int) : Bool := ps.all fun p => !onB k p
def allGaps (lo : Int) (ps : List (Int × Int)) (f : Int) : List (Int × Int) := gapL lo ps ++ (if endP lo ps < f then [(endP lo ps, f - endP lo ps)] else [])
/-- the numbers from one on -/
def ups : Int → Nat → List Int
  | _, 0 => []
  | a, n + 1 => a :: ups (a + 1) n
theorem ups_app : ∀ (m n : Nat) (a : Int), ups a (m + n) = ups a m ++ ups (a + m) n
  | 0, n, a => by simp [ups]
  | m + 1, n, a => by
    rw [show m + 1 + n = (m + n) + 1 by omega, ups, ups_app m n (a + 1), ups, List.cons_append]
    congr 3
    omega
theorem ups_mem : ∀ (n : Nat) (a k : Int), k ∈ ups a n → a ≤ k ∧ k < a + n
  | 0, a, k, h => by simp [ups] at h
  | n + 1, a, k, h => by
    rw [ups] at h
    rcases List.mem_cons.mp h with rfl | h
    · omega
    · have := ups_mem n _ _ h
      omega
/-- a place is put to the gaps that were found, the last one ahead -/
def gs (k : Int) : List (Int × Int) → List (Int × Int)
  | q :: t => if q.1 + q.2 = k then (q.1, q.2 + 1) :: t else (k, 1) :: q :: t
  | [] => [(k, 1)]
def grp (ks : List Int) (fr : List (Int × Int)) : List (Int × Int) := ks.foldl (fun fr k => gs k fr) fr
theorem grp_more (t : List (Int × Int)) : ∀ (n : Nat) (a s l : Int), s + l = a → grp (ups a n) ((s, l) :: t) = (s, l + n) :: t
  | 0, a, s, l, _ => by simp [grp, ups]
  | n + 1, a, s, l, h => by
    show grp (ups (a + 1) n) (gs a ((s, l) :: t)) = _
    have : gs a ((s, l) :: t) = (s, l + 1) :: t := by simp [gs, h]
    rw [this, grp_more t n (a + 1) s (l + 1) (by omega)]
    congr 2
    omega
theorem grp_run (fr : List (Int × Int)) (a : Int) (n : Nat) (h : ∀ q t, fr = q :: t → q.1 + q.2 ≠ a) : grp (ups a n) fr = (if 0 < n then [(a, (n : Int))] else []) ++ fr := by
  cases n with
  | zero => simp [grp, ups]
  | succ n =>
    show grp (ups (a + 1) n) (gs a fr) = _
    have : gs a fr = (a, 1) :: fr := by
      cases fr with
      | nil => rfl
      | cons q t => simp [gs, h q t rfl]
    rw [this, grp_more fr n (a + 1) a 1 rfl, if_pos (by omega)]
    simp
    omega
theorem grp_app (as bs : List Int) (fr : List (Int × Int)) : grp (as ++ bs) fr = grp bs (grp as fr) := List.foldl_append
/-- the free places -/
theorem free_split {hi : Int} : ∀ (ps : List (Int × Int)) (lo f : Int) (fr : List (Int × Int)), layP hi lo ps → endP lo ps ≤ f → (∀ q t, fr = q :: t → q.1 + q.2 < lo) →
    grp ((ups lo (f - lo).toNat).filter (freeB ps)) fr = (allGaps lo ps f).reverse ++ fr
  | [], lo, f, fr, _, hf, hq => by
    have e : (ups lo (f - lo).toNat).filter (freeB []) = ups lo (f - lo).toNat := List.filter_eq_self.mpr fun _ _ => rfl
    rw [e, grp_run fr lo _ fun q t e => by have := hq q t e; omega]
    unfold allGaps gapL endP
    have hf : lo ≤ f := hf
    by_cases c : lo < f
    · rw [if_pos (by omega), if_pos c]
      simp
      omega
    · rw [if_neg (by omega), if_neg c]
      simp
  | p :: r, lo, f, fr, h, hf, hq => by
    obtain ⟨h1, h2, h3, h4⟩ := h
    have hf : endP (p.1 + p.2) r ≤ f := hf
    have hge := endP_ge r _ h4
    have hmem : ∀ q ∈ r, p.1 + p.2 ≤ q.1 := fun q hq' => (layP_mem r _ h4 q hq').1
    have e0 : (f - lo).toNat = (p.1 - lo).toNat + (p.2.toNat + (f - (p.1 + p.2)).toNat) := by omega
    have e1 : lo + ((p.1 - lo).toNat : Int) = p.1 := by omega
    have e2 : p.1 + (p.2.toNat : Int) = p.1 + p.2 := by omega
    rw [e0, ups_app, ups_app, e1, e2, List.filter_append, List.filter_append]
    have q1 : (ups lo (p.1 - lo).toNat).filter (freeB (p :: r)) = ups lo (p.1 - lo).toNat := by
      refine List.filter_eq_self.mpr fun k hk => ?_
      have hk := ups_mem _ _ _ hk
      refine List.all_eq_true.mpr fun q hq' => ?_
      have : ¬ q.1 ≤ k := by
        rcases List.mem_cons.mp hq' with rfl | hq'
        · omega
        · have := hmem q hq'
          omega
      simp [onB, this]
    have q2 : (ups p.1 p.2.toNat).filter (freeB (p :: r)) = [] := by
      refine List.filter_eq_nil_iff.mpr fun k hk => ?_
      have hk := ups_mem _ _ _ hk
      have a1 : p.1 ≤ k := hk.1
      have a2 : k < p.1 + p.2 := by omega
      simp [freeB, onB, a1, a2]
    have q3 : (ups (p.1 + p.2) (f - (p.1 + p.2)).toNat).filter (freeB (p :: r)) = (ups (p.1 + p.2) (f - (p.1 + p.2)).toNat).filter (freeB r) := by
      refine List.filter_congr fun k hk => ?_
      have hk := ups_mem _ _ _ hk
      have a2 : ¬ k < p.1 + p.2 := by omega
      simp [freeB, onB, a2]
    rw [q1, q2, q3, List.nil_append, grp_app, grp_run fr lo _ fun q t e => by have := hq q t e; omega]
    rw [free_split r (p.1 + p.2) f _ h4 hf fun q t e => by
      by_cases c : 0 < (p.1 - lo).toNat
      · rw [if_pos c] at e
        cases e
        show lo + (((p.1 - lo).toNat : Nat) : Int) < _
        omega
      · rw [if_neg c] at e
        have := hq q t e
        omega]
    have e3 : endP lo (p :: r) = endP (p.1 + p.2) r := rfl
    unfold allGaps
    rw [e3, gapL]
    by_cases c : lo < p.1
    · rw [if_pos (show 0 < (p.1 - lo).toNat by omega), if_pos c]
      have : (((p.1 - lo).toNat : Nat) : Int) = p.1 - lo := by omega
      rw [this]
      simp
    · rw [if_neg (show ¬ 0 < (p.1 - lo).toNat by omega), if_neg c]
      simp
theorem gap_pos {hi : Int} : ∀ (ps : List (Int × Int)) (lo : Int), layP hi lo ps → ∀ q ∈ gapL lo ps, lo ≤ q.1 ∧ 0 < q.2 ∧ q.1 + q.2 ≤ hi
  | [], lo, _, q, hq => by cases hq
  | p :: r, lo, h, q, hq => by
    obtain ⟨h1, h2, h3, h4⟩ := h
    rw [gapL] at hq
    rcases List.mem_append.mp hq with hq | hq
    · split at hq
      · cases List.mem_singleton.mp hq
        exact ⟨Int.le_refl _, by show 0 < p.1 - lo; omega, by show lo + (p.1 - lo) ≤ hi; omega⟩
      · cases hq
    · have := gap_pos r _ h4 q hq
      omega
theorem gap_len : ∀ (ps : List (Int × Int)) (lo : Int), (gapL lo ps).length ≤ ps.length
  | [], lo => Nat.le_refl _
  | p :: r, lo => by
    have := gap_len r (p.1 + p.2)
    rw [gapL, List.length_append, List.length_cons]
    split
    · rw [List.length_singleton]; omega
    · rw [List.length_nil]; omega
theorem live_le {hi : Int} : ∀ (ps : List (Int × Int)) (lo : Int), layP hi lo ps → 0 ≤ liveP ps ∧ lo + liveP ps ≤ endP lo ps
  | [], lo, _ => ⟨Int.le_refl _, by show lo + 0 ≤ lo; omega⟩
  | p :: r, lo, h => by
    obtain ⟨h1, h2, h3, h4⟩ := h
    have := live_le r _ h4
    exact ⟨by show 0 ≤ p.2 + liveP r; omega, by show lo + (p.2 + liveP r) ≤ endP (p.1 + p.2) r; omega⟩
/-! pressed -/
def press : Int → List (Int × Int) → List (Int × Int)
  | _, [] => []
  | lo, p :: r => (lo, p.2) :: press (lo + p.2) r
def movesP : Int → List (Int × Int) → List (Int × Int × Int)
  | _, [] => []
  | lo, p :: r => (if lo < p.1 then [(p.1, lo, p.2)] else []) ++ movesP (lo + p.2) r
theorem press_lay {hi : Int} : ∀ (ps : List (Int × Int)) (lo at_ : Int), layP hi at_ ps → lo ≤ at_ → layP hi lo (press lo ps) ∧ endP lo (press lo ps) = lo + liveP ps ∧ liveP (press lo ps) = liveP ps ∧ movesP lo (press lo ps) = [] ∧ (press lo ps).length = ps.length
  | [], lo, at_, _, _ => ⟨trivial, by show lo = lo + 0; omega, rfl, rfl, rfl⟩
  | p :: r, lo, at_, h, hl => by
    obtain ⟨h1, h2, h3, h4⟩ := h
    obtain ⟨i1, i2, i3, i4, i5⟩ := press_lay r (lo + p.2) (p.1 + p.2) h4 (by omega)
    refine ⟨⟨Int.le_refl _, h2, by show lo + p.2 ≤ hi; omega, i1⟩, ?_, ?_, ?_, ?_⟩
    · show endP (lo + p.2) (press (lo + p.2) r) = lo + (p.2 + liveP r)
      rw [i2]
      omega
    · show p.2 + liveP (press (lo + p.2) r) = p.2 + liveP r
      rw [i3]
    · show (if lo < lo then _ else []) ++ movesP (lo + p.2) (press (lo + p.2) r) = []
      rw [i4, if_neg (by omega)]
      rfl
    · rw [press, List.length_cons, List.length_cons, i5]
/-! lists that grow at their end -/
def fnd (fr : List (Int × Int)) : List D := fr.reverse.map plD
theorem fnd_nil : fnd [] = [] := rfl
theorem fnd_len (fr : List (Int × Int)) : (fnd fr).length = fr.length := by unfold fnd; simp
theorem fnd_cons (q : Int × Int) (t : List (Int × Int)) : fnd (q :: t) = fnd t ++ [plD q] := by unfold fnd; simp
theorem fnd_last (q : Int × Int) (t : List (Int × Int)) : atI (fnd (q :: t)) (-1) = some (plD q) := by rw [fnd_cons]; exact atI_last _ _
theorem fnd_set (q z : Int × Int) (t : List (Int × Int)) : setF (fnd (q :: t)) (.int (-1)) (plD z) = some (fnd (z :: t)) := by
  show (ixN (fnd (q :: t)).length (-1)).map (fun j => (fnd (q :: t)).set j (plD z)) = _
  rw [fnd_cons, fnd_cons]
  have e : ixN (fnd t ++ [plD q]).length (-1) = some (fnd t).length := by
    unfold ixN
    rw [if_neg (by omega), if_pos (by simp; omega)]
    congr 1
    simp
    omega
  rw [e, Option.map_some, List.set_append_right _ _ (Nat.le_refl _), Nat.sub_self]
  rfl
theorem fnd_mt (fr : List (Int × Int)) : eqB (.lst (fnd fr)) (.lst []) = some (fr.isEmpty) := by
  rw [eqB_mt (m := 2) (n := 1) (by decide) fun y hy => by
    obtain ⟨p, _, rfl⟩ := List.mem_map.mp hy
    exact th_tup.mpr ⟨by simp, by simp⟩]
  congr 1
  unfold fnd
  cases fr <;> simp
theorem gapL_snoc : ∀ (ps : List (Int × Int)) (lo : Int) (p : Int × Int), gapL lo (ps ++ [p]) = gapL lo ps ++ (if endP lo ps < p.1 then [(endP lo ps, p.1 - endP lo ps)] else [])
  | [], lo, p => by
    show (if lo < p.1 then [(lo, p.1 - lo)] else []) ++ gapL (p.1 + p.2) [] = gapL lo [] ++ (if lo < p.1 then [(lo, p.1 - lo)] else [])
    simp only [gapL, List.append_nil, List.nil_append]
  | q :: r, lo, p => by
    rw [List.cons_append, gapL, gapL, gapL_snoc r, List.append_assoc]
    rfl
theorem live_snoc : ∀ (ps : List (Int × Int)) (p : Int × Int), liveP (ps ++ [p]) = liveP ps + p.2
  | [], p => by simp [liveP]
  | q :: r, p => by
    rw [List.cons_append, liveP, liveP, live_snoc r]
    omega
theorem press_snoc : ∀ (ps : List (Int × Int)) (lo : Int) (p : Int × Int), press lo (ps ++ [p]) = press lo ps ++ [(lo + liveP ps, p.2)]
  | [], lo, p => by simp [press, liveP]
  | q :: r, lo, p => by
    rw [List.cons_append, press, press, press_snoc r, List.cons_append, liveP, Int.add_assoc]
theorem moves_snoc : ∀ (ps : List (Int × Int)) (lo : Int) (p : Int × Int), movesP lo (ps ++ [p]) = movesP lo ps ++ (if lo + liveP ps < p.1 then [(p.1, lo + liveP ps, p.2)] else [])
  | [], lo, p => by simp [movesP, liveP]
  | q :: r, lo, p => by
    rw [List.cons_append, movesP, movesP, moves_snoc r, List.append_assoc, liveP, Int.add_assoc]
theorem press_len : ∀ (ps : List (Int × Int)) (lo : Int), (press lo ps).length = ps.length
  | [], _ => rfl
  | p :: r, lo => by rw [press, List.length_cons, List.length_cons, press_len r]
theorem moves_len : ∀ (ps : List (Int × Int)) (lo : Int), (movesP lo ps).length ≤ ps.length
  | [], lo => Nat.le_refl _
  | p :: r, lo => by
    have := moves_len r (lo + p.2)
    rw [movesP, List.length_append, List.length_cons]
    split
    · rw [List.length_singleton]; omega
    · rw [List.length_nil]; omega
def mvD (p : Int × Int × Int) : D := .tup [.int p.1, .int p.2.1, .int p.2.2]
/-- a loop over plots: what stands behind a part of them -/
theorem plots_go {Y : Type} {g : GM} {s : SM} {E : List (Int × Int) → Y → Ev} {π : Rt} {all : List (Int × Int)} (hs : ∀ (pre : List (Int × Int)) (p : Int × Int) (suf : List (Int × Int)) (y : Y), all = pre ++ p :: suf → ∃ ρ1 y', g (plD p) (E pre y) = some ρ1 ∧ s ρ1 π = .nx (E (pre ++ [p]) y') π) :
    ∀ (suf pre : List (Int × Int)) (y : Y), all = pre ++ suf → ∃ y', forGo g s (suf.map plD) (E pre y) π = .nx (E all y') π
  | [], pre, y, h => ⟨y, by rw [h, List.append_nil]; rfl⟩
  | p :: r, pre, y, h => by
    obtain ⟨ρ1, y1, g1, e1⟩ := hs pre p r y h
    obtain ⟨y', e⟩ := plots_go hs r (pre ++ [p]) y1 (by rw [h]; simp)
    exact ⟨y', by rw [List.map_cons, for_cons g1 e1]; exact e⟩
theorem ints_go {Y : Type} {g : GM} {s : SM} {E : List Int → Y → Ev} {π : Rt} {all : List Int} (hs : ∀ (pre : List Int) (k : Int) (suf : List Int) (y : Y), all = pre ++ k :: suf → ∃ ρ1 y', g (.int k) (E pre y) = some ρ1 ∧ s ρ1 π = .nx (E (pre ++ [k]) y') π) :
    ∀ (suf pre : List Int) (y : Y), all = pre ++ suf → ∃ y', forGo g s (suf.map D.int) (E pre y) π = .nx (E all y') π
  | [], pre, y, h => ⟨y, by rw [h, List.append_nil]; rfl⟩
  | p :: r, pre, y, h => by
    obtain ⟨ρ1, y1, g1, e1⟩ := hs pre p r y h
    obtain ⟨y', e⟩ := ints_go hs r (pre ++ [p]) y1 (by rw [h]; simp)
    exact ⟨y', by rw [List.map_cons, for_cons g1 e1]; exact e⟩
theorem comp_ints (g : GM) (t : Ev → EM Bool) (f : Ev → EM D) (ρ : Ev) (π : Rt) (p : Int → Bool) (is_ : List Int) (h : ∀ i, ∃ ρ', g (.int i) ρ = some ρ' ∧ t ρ' π = .ok (p i) π ∧ f ρ' π = .ok (.int i) π) :
    compGo g t f ρ (is_.map D.int) π = .ok ((is_.filter p).map D.int) π := by
  refine (compGo_filter (p := fun d => match d with
    | .int i => p i
    | _ => false) (h := id) _ fun d hd => ?_).trans ?_
  · obtain ⟨i, _, rfl⟩ := List.mem_map.mp hd
    obtain ⟨ρ', g1, g2, g3⟩ := h i
    exact ⟨ρ', g1, g2, fun _ => g3⟩
  · rw [List.filter_map, List.map_id]
    rfl
theorem rng_ups (n : Nat) : ∀ lo : Int, rng lo n = (ups lo n).map D.int := by
  induction n with
  | zero => exact fun lo => rfl
  | succ n ih =>
    intro lo
    have e : rng lo (n + 1) = .int lo :: rng (lo + 1) n := by
      unfold rng
      rw [List.range_succ_eq_map, List.map_cons, List.map_map]
      congr 1
      · show D.int (lo + ((0 : Nat) : Int)) = _
        rw [show lo + ((0 : Nat) : Int) = lo by omega]
      · refine List.map_congr_left fun i _ => ?_
        show D.int (lo + ((i + 1 : Nat) : Int)) = D.int (lo + 1 + (i : Nat))
        rw [show lo + ((i + 1 : Nat) : Int) = lo + 1 + (i : Nat) by omega]
    rw [e, ups, List.map_cons, ih]
theorem grp_len : ∀ (ks : List Int) (fr : List (Int × Int)), (grp ks fr).length ≤ fr.length + ks.length
  | [], fr => Nat.le_refl _
  | k :: r, fr => by
    have h1 := grp_len r (gs k fr)
    have h2 : (gs k fr).length ≤ fr.length + 1 := by
      unfold gs
      split
      · split
        · simp
        · simp
      · simp
    show (grp r (gs k fr)).length ≤ _
    rw [List.length_cons]
    omega
theorem gaps_below_ok {ps : List (Int × Int)} (hl : ps.length ≤ 1000) (π : Rt) : R_gaps_below [.tup (ps.map plD)] π = .ok (.lst ((gapL 0 ps).map plD)) π := by
  have hm : most = 1000000 := rfl
  let P : SO → Prop := fun o => outB o = .ok (.lst ((gapL 0 ps).map plD)) π
  rw [R_gaps_below, run_eq [some (.dat (.tup (ps.map plD))), none, none, none, none] rfl]
  show P _
  unfold W_gaps_below
  refine step_nx (P := P) (ρ1 := [some (.dat (.tup (ps.map plD))), some (.lst []), none, none, none]) (π1 := π) (by simp) ?_
  refine step_nx (P := P) (ρ1 := [some (.dat (.tup (ps.map plD))), some (.lst []), some (.dat (.int 0)), none, none]) (π1 := π) (by simp) ?_
  show outB (sSeq _ _ _ _) = _
  rw [for_seq (ds := ps.map plD) (π1 := π) (by simp)]
  obtain ⟨y', e⟩ := plots_go (Y := Option SV × Option SV) (g := gT 2 (gCons_ (gN 3) (gCons_ (gN 4) gNil_))) (π := π) (all := ps) (E := fun pre y => [some (.dat (.tup (ps.map plD))), some (.lst ((gapL 0 pre).map plD)), some (.dat (.int (endP 0 pre))), y.1, y.2])
    (s := sSeq (sIf (eT (eBin gtM (eVar 3) (eVar 2))) (sMut 1 (eTup (aCons (eVar 2) (aCons (eBin subM (eVar 3) (eVar 2)) aNil))) apF) sNop) (sSet 2 (eBin addM (eVar 3) (eVar 4))))
    (fun pre p suf y hk => by
      have h1 := gap_len pre 0
      have h2 : pre.length < ps.length := by
        rw [hk]
        simp
      have h3 : (gapL 0 pre).length < most := by omega
      refine ⟨_, (some (.dat (.int p.1)), some (.dat (.int p.2))), rfl, ?_⟩
      rw [gapL_snoc, endP_last]
      by_cases c : endP 0 pre < p.1
      · rw [if_pos c]
        simp [c, apF, h3, plD]
      · rw [if_neg c]
        simp [c]) ps [] (none, none) rfl
  have e : forGo _ _ (ps.map plD) [some (.dat (.tup (ps.map plD))), some (.lst []), some (.dat (.int 0)), none, none] π = _ := e
  rw [e]
  simp
/-! rules of places -/
def frB (ps : List (Int × Int)) (n k : Int) : Bool := ps.all fun p => decide (p.1 + p.2 ≤ k) || decide (k + n ≤ p.1)
/-- all places in gaps where so many fit -/
def lowL (n : Int) (qs : List (Int × Int)) : List Int := (qs.filter fun q => decide (n ≤ q.2)).flatMap fun q => ups q.1 (q.2 - n + 1).toNat
theorem ups_filter_le : ∀ (m : Nat) (a b : Int), (ups a m).filter (fun k => decide (k ≤ b)) = ups a (min m (b - a + 1).toNat)
  | 0, a, b => by simp [ups]
  | m + 1, a, b => by
    rw [ups, List.filter_cons]
    by_cases c : a ≤ b
    · rw [decide_eq_true c, if_pos rfl, ups_filter_le m (a + 1) b]
      have : min (m + 1) (b - a + 1).toNat = min m (b - (a + 1) + 1).toNat + 1 := by omega
      rw [this, ups]
    · rw [decide_eq_false c, if_neg (by decide), ups_filter_le m (a + 1) b]
      have h1 : min (m + 1) (b - a + 1).toNat = 0 := by omega
      have h2 : min m (b - (a + 1) + 1).toNat = 0 := by omega
      rw [h1, h2]
      rfl
theorem low_split {hi : Int} {n : Int} (hn : 1 ≤ n) : ∀ (ps : List (Int × Int)) (lo : Int), layP hi lo ps → (ups lo (endP lo ps - lo).toNat).filter (fun k => frB ps n k && decide (k + n ≤ endP lo ps)) = lowL n (gapL lo ps)
  | [], lo, _ => by
    have : (endP lo [] - lo).toNat = 0 := by show (lo - lo).toNat = 0; omega
    rw [this]
    rfl
  | p :: r, lo, h => by
    obtain ⟨h1, h2, h3, h4⟩ := h
    have hge := endP_ge r _ h4
    have hmem : ∀ q ∈ r, p.1 + p.2 ≤ q.1 := fun q hq' => (layP_mem r _ h4 q hq').1
    have e3 : endP lo (p :: r) = endP (p.1 + p.2) r := rfl
    rw [e3]
    generalize hE : endP (p.1 + p.2) r = e at *
    have e0 : (e - lo).toNat = (p.1 - lo).toNat + (p.2.toNat + (e - (p.1 + p.2)).toNat) := by omega
    have e1 : lo + ((p.1 - lo).toNat : Int) = p.1 := by omega
    have e2 : p.1 + (p.2.toNat : Int) = p.1 + p.2 := by omega
    rw [e0, ups_app, ups_app, e1, e2, List.filter_append, List.filter_append]
    have q1 : (ups lo (p.1 - lo).toNat).filter (fun k => frB (p :: r) n k && decide (k + n ≤ e)) = (if n ≤ p.1 - lo then ups lo (p.1 - lo - n + 1).toNat else []) := by
      have : ∀ k ∈ ups lo (p.1 - lo).toNat, (frB (p :: r) n k && decide (k + n ≤ e)) = decide (k ≤ p.1 - n) := fun k hk => by
        have hk := ups_mem _ _ _ hk
        have a1 : ¬ p.1 + p.2 ≤ k := by omega
        by_cases c : k ≤ p.1 - n
        · have a2 : k + n ≤ p.1 := by omega
          have a3 : k + n ≤ e := by omega
          have a4 : r.all (fun q => decide (q.1 + q.2 ≤ k) || decide (k + n ≤ q.1)) = true := List.all_eq_true.mpr fun q hq => by
            have := hmem q hq
            have : k + n ≤ q.1 := by omega
            simp [this]
          simp [frB, a2, a3, a4, c]
        · have a2 : ¬ k + n ≤ p.1 := by omega
          simp [frB, a1, a2, c]
      rw [List.filter_congr this, ups_filter_le]
      by_cases c : n ≤ p.1 - lo
      · rw [if_pos c]
        congr 1
        omega
      · rw [if_neg c]
        have : min (p.1 - lo).toNat (p.1 - n - lo + 1).toNat = 0 := by omega
        rw [this]
        rfl
    have q2 : (ups p.1 p.2.toNat).filter (fun k => frB (p :: r) n k && decide (k + n ≤ e)) = [] := by
      refine List.filter_eq_nil_iff.mpr fun k hk => ?_
      have hk := ups_mem _ _ _ hk
      have a1 : ¬ p.1 + p.2 ≤ k := by omega
      have a2 : ¬ k + n ≤ p.1 := by omega
      simp [frB, a1, a2]
    have q3 : (ups (p.1 + p.2) (e - (p.1 + p.2)).toNat).filter (fun k => frB (p :: r) n k && decide (k + n ≤ e)) = (ups (p.1 + p.2) (e - (p.1 + p.2)).toNat).filter (fun k => frB r n k && decide (k + n ≤ e)) := by
      refine List.filter_congr fun k hk => ?_
      have hk := ups_mem _ _ _ hk
      have a2 : p.1 + p.2 ≤ k := hk.1
      simp [frB, a2]
    have ih := low_split hn r (p.1 + p.2) h4
    rw [hE] at ih
    rw [q1, q2, q3, ih, List.nil_append]
    unfold lowL
    rw [gapL, List.filter_append, List.flatMap_append]
    congr 1
    by_cases c : n ≤ p.1 - lo
    · have c2 : lo < p.1 := by omega
      rw [if_pos c, if_pos c2]
      simp [List.filter_cons, c]
    · rw [if_neg c]
      by_cases c2 : lo < p.1
      · rw [if_pos c2]
        simp [List.filter_cons, c]
      · rw [if_neg c2]
        rfl
/-- whether a place is taken -/
def tkB (ps : List (Int × Int)) (k : Int) : Bool := ps.any fun p => onB k p
theorem fr_tk {ps : List (Int × Int)} (hp : ∀ p ∈ ps, 0 < p.2) {n : Nat} (hn : 1 ≤ n) (k : Int) : frB ps n k = (ups k n).all fun j => !tkB ps j := by
  rw [Bool.eq_iff_iff]
  unfold frB tkB
  rw [List.all_eq_true, List.all_eq_true]
  constructor
  · intro h j hj
    have hj := ups_mem _ _ _ hj
    rw [Bool.not_eq_true', List.any_eq_false]
    intro p hpp
    have := h p hpp
    simp only [Bool.or_eq_true, decide_eq_true_eq] at this
    unfold onB
    simp only [Bool.and_eq_true, decide_eq_true_eq]
    omega
  · intro h p hpp
    have hpos := hp p hpp
    simp only [Bool.or_eq_true, decide_eq_true_eq]
    apply Classical.byContradiction
    intro c
    have mem : ∀ (n : Nat) (a j : Int), a ≤ j → j < a + n → j ∈ ups a n := by
      intro n
      induction n with
      | zero => intro a j h1 h2; omega
      | succ n ih =>
        intro a j h1 h2
        rw [ups]
        by_cases e : j = a
        · rw [e]; exact List.mem_cons_self
        · exact List.mem_cons_of_mem _ (ih (a + 1) j (by omega) (by omega))
    have hm := h (if p.1 ≤ k then k else p.1) (mem n k _ (by split <;> omega) (by split <;> omega))
    rw [Bool.not_eq_true', List.any_eq_false] at hm
    have := hm p hpp
    unfold onB at this
    simp only [Bool.and_eq_true, decide_eq_true_eq] at this
    split at this <;> omega
/-- a gap: free within, taken behind it, and ahead of it but at 0 -/
theorem gap_facts {hi : Int} : ∀ (ps pre : List (Int × Int)) (lo : Int), layP hi lo ps → (∀ p ∈ pre, p.1 + p.2 ≤ lo) → (lo = 0 ∨ tkB pre (lo - 1) = true) → ∀ q ∈ gapL lo ps, (∀ k, q.1 ≤ k → k < q.1 + q.2 → tkB (pre ++ ps) k = false) ∧ tkB (pre ++ ps) (q.1 + q.2) = true ∧ (q.1 = 0 ∨ tkB (pre ++ ps) (q.1 - 1) = true)
  | [], pre, lo, _, _, _, q, hq => by cases hq
  | p :: r, pre, lo, h, hpre, hlo, q, hq => by
    obtain ⟨h1, h2, h3, h4⟩ := h
    have hmem : ∀ q ∈ r, p.1 + p.2 ≤ q.1 := fun q hq' => (layP_mem r _ h4 q hq').1
    rw [gapL] at hq
    rcases List.mem_append.mp hq with hq | hq
    · split at hq
      · next c =>
        cases List.mem_singleton.mp hq
        refine ⟨fun k k1 k2 => ?_, ?_, ?_⟩
        · have k1 : lo ≤ k := k1
          have k2 : k < lo + (p.1 - lo) := k2
          unfold tkB
          rw [List.any_eq_false]
          intro z hz
          unfold onB
          simp only [Bool.and_eq_true, decide_eq_true_eq]
          rcases List.mem_append.mp hz with hz | hz
          · have := hpre z hz
            omega
          · rcases List.mem_cons.mp hz with rfl | hz
            · omega
            · have := hmem z hz
              omega
        · unfold tkB
          rw [List.any_eq_true]
          refine ⟨p, List.mem_append_right _ List.mem_cons_self, ?_⟩
          show onB (lo + (p.1 - lo)) p = true
          unfold onB
          simp only [Bool.and_eq_true, decide_eq_true_eq]
          omega
        · rcases hlo with e | e
          · exact .inl e
          · refine .inr ?_
            show tkB (pre ++ p :: r) (lo - 1) = true
            unfold tkB at e ⊢
            rw [List.any_append, e]
            rfl
      · cases hq
    · have ih := gap_facts r (pre ++ [p]) (p.1 + p.2) h4 (fun z hz => by
        rcases List.mem_append.mp hz with hz | hz
        · have := hpre z hz
          omega
        · cases List.mem_singleton.mp hz
          exact Int.le_refl _) (.inr (by
        unfold tkB
        rw [List.any_append, Bool.or_eq_true]
        refine .inr ?_
        simp only [List.any_cons, List.any_nil, Bool.or_false]
        unfold onB
        simp only [Bool.and_eq_true, decide_eq_true_eq]
        omega)) q hq
      rw [List.append_assoc] at ih
      exact ih
/-- the first gap of a length -/
def pickG (goal : Int) (fs : List (Int × Int)) : Int := match fs.find? fun q => decide (q.2 = goal) with
  | some q => q.1
  | none => 0
/-- where a rule gives a plot -/
inductive Rule | first | best | worst | last | even
def gapP (r : Rule) (n : Int) (fs : List (Int × Int)) : Int := match r with
  | .first => (fs.headD (0, 0)).1
  | .last => (fs.getLastD (0, 0)).1 + (fs.getLastD (0, 0)).2 - n
  | .best => pickG (minL (fs.map (·.2))) fs
  | _ => pickG (maxL (fs.map (·.2))) fs
theorem mem_ups : ∀ (n : Nat) (a j : Int), a ≤ j → j < a + n → j ∈ ups a n
  | 0, a, j, h1, h2 => by omega
  | n + 1, a, j, h1, h2 => by
    rw [ups]
    by_cases e : j = a
    · rw [e]; exact List.mem_cons_self
    · exact List.mem_cons_of_mem _ (mem_ups n (a + 1) j (by omega) (by omega))
def wB (ps : List (Int × Int)) (k : Int) : Bool := decide (k = 0) || tkB ps (k - 1)
def fitsG (n : Int) (qs : List (Int × Int)) : List (Int × Int) := qs.filter fun q => decide (n ≤ q.2)
theorem low_starts {ps : List (Int × Int)} {n : Int} (hn : 1 ≤ n) : ∀ (qs : List (Int × Int)), (∀ q ∈ qs, 0 ≤ q.1 ∧ 0 < q.2 ∧ (∀ k, q.1 ≤ k → k < q.1 + q.2 → tkB ps k = false) ∧ (q.1 = 0 ∨ tkB ps (q.1 - 1) = true)) → (lowL n qs).filter (wB ps) = (fitsG n qs).map (·.1)
  | [], _ => rfl
  | q :: r, h => by
    obtain ⟨h0, h1, h2, h3⟩ := h q List.mem_cons_self
    have ih := low_starts hn r fun z hz => h z (List.mem_cons_of_mem _ hz)
    unfold lowL fitsG at ih ⊢
    rw [List.filter_cons]
    by_cases c : n ≤ q.2
    · rw [decide_eq_true c, if_pos rfl, List.flatMap_cons, List.filter_append, ih, List.map_cons]
      have : (ups q.1 (q.2 - n + 1).toNat).filter (wB ps) = [q.1] := by
        obtain ⟨m, hm⟩ : ∃ m, (q.2 - n + 1).toNat = m + 1 := ⟨(q.2 - n + 1).toNat - 1, by omega⟩
        rw [hm, ups, List.filter_cons, if_pos (by unfold wB; rcases h3 with e | e <;> simp [e])]
        congr 1
        refine List.filter_eq_nil_iff.mpr fun k hk => ?_
        have hk := ups_mem _ _ _ hk
        unfold wB
        have a1 : ¬ k = 0 := by omega
        have a2 := h2 (k - 1) (by omega) (by omega)
        simp [a1, a2]
      rw [this]
      rfl
    · rw [decide_eq_false c, if_neg (by decide)]
      exact ih
theorem low_nil {n : Int} (hn : 1 ≤ n) (qs : List (Int × Int)) : lowL n qs = [] ↔ fitsG n qs = [] := by
  unfold lowL fitsG
  cases hq : qs.filter fun q => decide (n ≤ q.2) with
  | nil => simp
  | cons q r =>
    have hm : q ∈ qs.filter fun q => decide (n ≤ q.2) := by rw [hq]; exact List.mem_cons_self
    have := (List.mem_filter.mp hm).2
    have : n ≤ q.2 := by simpa using this
    obtain ⟨m, hm⟩ : ∃ m, (q.2 - n + 1).toNat = m + 1 := ⟨(q.2 - n + 1).toNat - 1, by omega⟩
    simp [List.flatMap_cons, hm, ups]
theorem low_head {n : Int} (hn : 1 ≤ n) {qs : List (Int × Int)} {q : Int × Int} {r : List (Int × Int)} (h : fitsG n qs = q :: r) : ∃ t, lowL n qs = q.1 :: t := by
  have hm : q ∈ fitsG n qs := by rw [h]; exact List.mem_cons_self
  have := (List.mem_filter.mp hm).2
  have : n ≤ q.2 := by simpa using this
  obtain ⟨m, hm⟩ : ∃ m, (q.2 - n + 1).toNat = m + 1 := ⟨(q.2 - n + 1).toNat - 1, by omega⟩
  have e : lowL n qs = (fitsG n qs).flatMap fun q => ups q.1 (q.2 - n + 1).toNat := rfl
  rw [e, h, List.flatMap_cons, hm, ups]
  exact ⟨_, rfl⟩
theorem ups_snoc : ∀ (m : Nat) (a : Int), ups a (m + 1) = ups a m ++ [a + m]
  | m, a => by rw [ups_app]; rfl
theorem low_last {n : Int} (hn : 1 ≤ n) {qs : List (Int × Int)} {q : Int × Int} {r : List (Int × Int)} (h : fitsG n qs = r ++ [q]) : ∃ t, lowL n qs = t ++ [q.1 + q.2 - n] := by
  have hm : q ∈ fitsG n qs := by rw [h]; simp
  have := (List.mem_filter.mp hm).2
  have : n ≤ q.2 := by simpa using this
  obtain ⟨m, hm⟩ : ∃ m, (q.2 - n + 1).toNat = m + 1 := ⟨(q.2 - n + 1).toNat - 1, by omega⟩
  have e : lowL n qs = (fitsG n qs).flatMap fun q => ups q.1 (q.2 - n + 1).toNat := rfl
  rw [e, h, List.flatMap_append, List.flatMap_cons, List.flatMap_nil, List.append_nil, hm, ups_snoc]
  refine ⟨List.flatMap (fun q => ups q.1 (q.2 - n + 1).toNat) r ++ ups q.1 m, ?_⟩
  rw [← List.append_assoc]
  have : q.1 + (m : Int) = q.1 + q.2 - n := by omega
  rw [this]
/-- the wide ones: how long, from where -/
def wideL (fs : List (Int × Int)) : List (Int × Int) := fs.map fun q => (q.2, q.1)
theorem find_first (goal : Int) : ∀ fs : List (Int × Int), ((wideL fs).filter fun p => decide (p.1 = goal)).map (·.2) = (fs.filter fun q => decide (q.2 = goal)).map (·.1)
  | [] => rfl
  | q :: r => by
    have ih := find_first goal r
    unfold wideL at ih ⊢
    rw [List.map_cons, List.filter_cons, List.filter_cons]
    by_cases c : q.2 = goal
    · simp only [c, decide_true, if_true, List.map_cons, ih]
    · simp only [c, decide_false, if_false, ih]
      simpa using ih
theorem pick_filter (goal : Int) (fs : List (Int × Int)) {k : Int} {t : List Int} (h : (fs.filter fun q => decide (q.2 = goal)).map (·.1) = k :: t) : pickG goal fs = k := by
  unfold pickG
  induction fs with
  | nil => cases h
  | cons q r ih =>
    rw [List.filter_cons] at h
    rw [List.find?_cons]
    by_cases c : q.2 = goal
    · rw [decide_eq_true c] at h ⊢
      rw [if_pos rfl, List.map_cons] at h
      injection h with h1 _
    · rw [decide_eq_false c] at h ⊢
      rw [if_neg (by decide)] at h
      exact ih h
/-- ascending starts -/
def ascB : List (Int × Int) → Prop
  | p :: q :: r => p.1 ≤ q.1 ∧ ascB (q :: r)
  | _ => True
theorem asc_all : ∀ (fs : List (Int × Int)) (p : Int × Int), ascB (p :: fs) → ∀ q ∈ fs, p.1 ≤ q.1
  | [], p, _, q, hq => absurd hq List.not_mem_nil
  | a :: r, p, h, q, hq => by
    rcases List.mem_cons.mp hq with rfl | hq
    · exact h.1
    · have := asc_all r a h.2 q hq
      have := h.1
      omega
theorem pick_least {goal : Int} : ∀ {fs : List (Int × Int)}, ascB fs → ∀ {q : Int × Int}, q ∈ fs → q.2 = goal → pickG goal fs ≤ q.1 ∧ (pickG goal fs, goal) ∈ fs
  | [], _, q, hq, _ => absurd hq List.not_mem_nil
  | p :: r, ha, q, hq, e => by
    unfold pickG
    rw [List.find?_cons]
    by_cases c : p.2 = goal
    · rw [decide_eq_true c]
      refine ⟨?_, ?_⟩
      · show p.1 ≤ q.1
        rcases List.mem_cons.mp hq with rfl | hq
        · exact Int.le_refl _
        · exact asc_all r p ha q hq
      · show (p.1, goal) ∈ p :: r
        rw [← c]
        exact List.mem_cons_self
    · rw [decide_eq_false c]
      have hq' : q ∈ r := by
        rcases List.mem_cons.mp hq with rfl | hq
        · exact absurd e c
        · exact hq
      have ha' : ascB r := by
        cases r with
        | nil => trivial
        | cons a r => exact ha.2
      obtain ⟨i1, i2⟩ := pick_least ha' hq' e
      exact ⟨i1, List.mem_cons_of_mem _ i2⟩
theorem gap_asc {hi : Int} : ∀ (ps : List (Int × Int)) (lo : Int), layP hi lo ps → ascB (gapL lo ps) ∧ ∀ q ∈ gapL lo ps, lo ≤ q.1
  | [], lo, _ => ⟨trivial, fun q hq => absurd hq List.not_mem_nil⟩
  | p :: r, lo, h => by
    obtain ⟨h1, h2, h3, h4⟩ := h
    obtain ⟨i1, i2⟩ := gap_asc r (p.1 + p.2) h4
    rw [gapL]
    by_cases c : lo < p.1
    · rw [if_pos c]
      refine ⟨?_, fun q hq => ?_⟩
      · show ascB ((lo, p.1 - lo) :: gapL (p.1 + p.2) r)
        cases hg : gapL (p.1 + p.2) r with
        | nil => trivial
        | cons a t =>
          rw [hg] at i1 i2
          have := i2 a List.mem_cons_self
          exact ⟨by show lo ≤ a.1; omega, i1⟩
      · rcases List.mem_append.mp hq with hq | hq
        · cases List.mem_singleton.mp hq
          exact Int.le_refl _
        · have := i2 q hq
          omega
    · rw [if_neg c]
      refine ⟨i1, fun q hq => ?_⟩
      have := i2 q hq
      omega
theorem asc_filter {P : Int × Int → Bool} : ∀ {fs : List (Int × Int)}, ascB fs → ascB (fs.filter P)
  | [], _ => trivial
  | p :: r, h => by
    have h' : ascB r := by
      cases r with
      | nil => trivial
      | cons a r => exact h.2
    have ih := asc_filter (P := P) h'
    rw [List.filter_cons]
    split
    · cases hf : r.filter P with
      | nil => trivial
      | cons a t =>
        rw [hf] at ih
        refine ⟨asc_all r p h a ?_, ih⟩
        have : a ∈ r.filter P := by rw [hf]; exact List.mem_cons_self
        exact (List.mem_filter.mp this).1
    · exact ih
end G_k12

namespace G_k12
open PySem PySem.Spec PyProof.Rows L2 LamX DL
/-! the names of rules -/
def ruleS : Rule → Str
  | .first => "first"
  | .best => "best"
  | .worst => "worst"
  | .last => "last"
  | .even => "even"
theorem e_first_first : eqB (.str "first") (.str "first") = some true := by
  rw [eqB_str (strOk_of _) (strOk_of _)]
  exact congrArg some (by decide +kernel)
theorem e_first_best : eqB (.str "first") (.str "best") = some false := by
  rw [eqB_str (strOk_of _) (strOk_of _)]
  exact congrArg some (by decide +kernel)
theorem e_first_worst : eqB (.str "first") (.str "worst") = some false := by
  rw [eqB_str (strOk_of _) (strOk_of _)]
  exact congrArg some (by decide +kernel)
theorem e_first_last : eqB (.str "first") (.str "last") = some false := by
  rw [eqB_str (strOk_of _) (strOk_of _)]
  exact congrArg some (by decide +kernel)
theorem e_first_even : eqB (.str "first") (.str "even") = some false := by
  rw [eqB_str (strOk_of _) (strOk_of _)]
  exact congrArg some (by decide +kernel)
theorem e_best_first : eqB (.str "best") (.str "first") = some false := by
  rw [eqB_str (strOk_of _) (strOk_of _)]
  exact congrArg some (by decide +kernel)
theorem e_best_best : eqB (.str "best") (.str "best") = some true := by
  rw [eqB_str (strOk_of _) (strOk_of _)]
  exact congrArg some (by decide +kernel)
theorem e_best_worst : eqB (.str "best") (.str "worst") = some false := by
  rw [eqB_str (strOk_of _) (strOk_of _)]
  exact congrArg some (by decide +kernel)
theorem e_best_last : eqB (.str "best") (.str "last") = some false := by
  rw [eqB_str (strOk_of _) (strOk_of _)]
  exact congrArg some (by decide +kernel)
theorem e_best_even : eqB (.str "best") (.str "even") = some false := by
  rw [eqB_str (strOk_of _) (strOk_of _)]
  exact congrArg some (by decide +kernel)
theorem e_worst_first : eqB (.str "worst") (.str "first") = some false := by
  rw [eqB_str (strOk_of _) (strOk_of _)]
  exact congrArg some (by decide +kernel)
theorem e_worst_best : eqB (.str "worst") (.str "best") = some false := by
  rw [eqB_str (strOk_of _) (strOk_of _)]
  exact congrArg some (by decide +kernel)
theorem e_worst_worst : eqB (.str "worst") (.str "worst") = some true := by
  rw [eqB_str (strOk_of _) (strOk_of _)]
  exact congrArg some (by decide +kernel)
theorem e_worst_last : eqB (.str "worst") (.str "last") = some false := by
  rw [eqB_str (strOk_of _) (strOk_of _)]
  exact congrArg some (by decide +kernel)
theorem e_worst_even : eqB (.str "worst") (.str "even") = some false := by
  rw [eqB_str (strOk_of _) (strOk_of _)]
  exact congrArg some (by decide +kernel)
theorem e_last_first : eqB (.str "last") (.str "first") = some false := by
  rw [eqB_str (strOk_of _) (strOk_of _)]
  exact congrArg some (by decide +kernel)
theorem e_last_best : eqB (.str "last") (.str "best") = some false := by
  rw [eqB_str (strOk_of _) (strOk_of _)]
  exact congrArg some (by decide +kernel)
theorem e_last_worst : eqB (.str "last") (.str "worst") = some false := by
  rw [eqB_str (strOk_of _) (strOk_of _)]
  exact congrArg some (by decide +kernel)
theorem e_last_last : eqB (.str "last") (.str "last") = some true := by
  rw [eqB_str (strOk_of _) (strOk_of _)]
  exact congrArg some (by decide +kernel)
theorem e_last_even : eqB (.str "last") (.str "even") = some false := by
  rw [eqB_str (strOk_of _) (strOk_of _)]
  exact congrArg some (by decide +kernel)
theorem e_even_first : eqB (.str "even") (.str "first") = some false := by
  rw [eqB_str (strOk_of _) (strOk_of _)]
  exact congrArg some (by decide +kernel)
theorem e_even_best : eqB (.str "even") (.str "best") = some false := by
  rw [eqB_str (strOk_of _) (strOk_of _)]
  exact congrArg some (by decide +kernel)
theorem e_even_worst : eqB (.str "even") (.str "worst") = some false := by
  rw [eqB_str (strOk_of _) (strOk_of _)]
  exact congrArg some (by decide +kernel)
theorem e_even_last : eqB (.str "even") (.str "last") = some false := by
  rw [eqB_str (strOk_of _) (strOk_of _)]
  exact congrArg some (by decide +kernel)
theorem e_even_even : eqB (.str "even") (.str "even") = some true := by
  rw [eqB_str (strOk_of _) (strOk_of _)]
  exact congrArg some (by decide +kernel)
/-! rows of places, taken or not -/
def tkL (N : Nat) (f : Int → Bool) : List D := (ups 0 N).map fun k => .int (if f k then 1 else 0)
theorem ups_len : ∀ (n : Nat) (a : Int), (ups a n).length = n
  | 0, a => rfl
  | n + 1, a => by rw [ups, List.length_cons, ups_len n]
theorem ups_get : ∀ (n : Nat) (a : Int) (i : Nat), i < n → (ups a n)[i]? = some (a + i)
  | 0, a, i, h => by omega
  | n + 1, a, 0, h => by simp [ups]
  | n + 1, a, i + 1, h => by
    rw [ups, List.getElem?_cons_succ, ups_get n (a + 1) i (by omega)]
    congr 1
    omega
theorem tk_len (N : Nat) (f : Int → Bool) : (tkL N f).length = N := by
  unfold tkL
  rw [List.length_map, ups_len]
theorem tk_at {N : Nat} (f : Int → Bool) {k : Int} (h0 : 0 ≤ k) (h1 : k < N) : atI (tkL N f) k = some (.int (if f k then 1 else 0)) := by
  have hl : k.toNat < (tkL N f).length := by rw [tk_len]; omega
  rw [atI_get h0 hl]
  have : (tkL N f)[k.toNat]? = some (.int (if f k then 1 else 0)) := by
    unfold tkL
    rw [List.getElem?_map, ups_get N 0 k.toNat (by omega)]
    show some _ = _
    rw [show (0 : Int) + (k.toNat : Nat) = k by omega]
  rw [List.getElem?_eq_getElem hl] at this
  exact this
theorem tk_set {N : Nat} (f : Int → Bool) {k : Int} (h0 : 0 ≤ k) (h1 : k < N) : setF (tkL N f) (.int k) (.int 1) = some (tkL N fun j => decide (j = k) || f j) := by
  show (ixN (tkL N f).length k).map (fun j => (tkL N f).set j (.int 1)) = _
  have e : ixN (tkL N f).length k = some k.toNat := by
    unfold ixN
    rw [if_pos h0, if_pos (by rw [tk_len]; omega)]
  rw [e, Option.map_some]
  congr 1
  apply List.ext_getElem?
  intro i
  by_cases hi : i < N
  · rw [List.getElem?_set]
    unfold tkL
    rw [List.getElem?_map, List.getElem?_map, ups_get N 0 i hi]
    by_cases c : k.toNat = i
    · rw [if_pos c, if_pos (by rw [List.length_map, ups_len]; omega)]
      have : (0 : Int) + (i : Nat) = k := by omega
      simp [this]
    · rw [if_neg c]
      have : ¬ (0 : Int) + (i : Nat) = k := by omega
      simp only [Option.map_some, this, decide_false, Bool.false_or]
  · rw [List.getElem?_eq_none (by rw [List.length_set, tk_len]; omega), List.getElem?_eq_none (by rw [tk_len]; omega)]
theorem tk_congr {N : Nat} {f g : Int → Bool} (h : ∀ k : Int, 0 ≤ k → k < N → f k = g k) : tkL N f = tkL N g := by
  unfold tkL
  refine List.map_congr_left fun k hk => ?_
  have := ups_mem _ _ _ hk
  rw [h k this.1 (by omega)]
theorem ups_drop : ∀ (i n : Nat) (a : Int), i ≤ n → (ups a n).drop i = ups (a + i) (n - i)
  | 0, n, a, _ => by simp
  | i + 1, 0, a, h => by omega
  | i + 1, n + 1, a, h => by
    rw [ups, List.drop_succ_cons, ups_drop i n (a + 1) (by omega), Nat.add_sub_add_right]
    congr 1
    omega
theorem ups_take : ∀ (i n : Nat) (a : Int), i ≤ n → (ups a n).take i = ups a i
  | 0, n, a, _ => by simp [ups]
  | i + 1, 0, a, h => by omega
  | i + 1, n + 1, a, h => by rw [ups, List.take_succ_cons, ups_take i n (a + 1) (by omega), ups]
theorem tk_cut {N : Nat} (f : Int → Bool) {k n : Nat} (h : k + n ≤ N) : cut (tkL N f) (some (k : Int)) (some ((k : Int) + (n : Int))) = (ups k n).map fun j => .int (if f j then 1 else 0) := by
  unfold cut
  rw [show ((k : Int) + (n : Int)) = ((k + n : Nat) : Int) by omega, HT.sIx_nat, HT.sIx_nat, tk_len, Nat.min_eq_left h, Nat.min_eq_left (show k ≤ N by omega)]
  unfold tkL
  rw [← List.map_drop, ← List.map_take, ups_drop k N 0 (by omega), ups_take _ _ _ (by omega)]
  congr 2
  · omega
  · omega
theorem tk_from {N : Nat} (f : Int → Bool) {k : Nat} (h : k ≤ N) : cut (tkL N f) (some (k : Int)) none = (ups k (N - k)).map fun j => .int (if f j then 1 else 0) := by
  rw [cut_from _ (by rw [tk_len]; exact h)]
  unfold tkL
  rw [← List.map_drop, ups_drop k N 0 h]
  congr 2
  omega
theorem tk_zero {N : Nat} (h : N ≤ 1000) (π : Rt) : mulF (.lst [.int 0]) (.int (N : Nat)) π = .ok (tkL N fun _ => false) π := by
  have hz : (1000 : Nat) ≤ sizeLine := by decide
  have h3 : [D.int 0].length * N ≤ sizeLine := by
    simp
    omega
  have h1 : -(2 ^ 63) ≤ ((N : Nat) : Int) := by omega
  have h2 : ((N : Nat) : Int) < 2 ^ 63 := by omega
  have e : ∀ (n : Nat) (a : Int), (List.replicate n [D.int 0]).flatten = (ups a n).map fun k => .int (if false = true then 1 else 0) := by
    intro n
    induction n with
    | zero => exact fun a => rfl
    | succ n ih =>
      intro a
      rw [List.replicate_succ, List.flatten_cons, ups, List.map_cons, ih (a + 1)]
      rfl
  unfold tkL
  rw [← e N 0]
  unfold mulF
  simp only [Int.toNat_natCast, h1, h2, h3, decide_true, Bool.and_self, if_true]
  rfl
theorem sum_zero (f : Int → Bool) : ∀ (n : Nat) (a : Int), 0 ≤ ((ups a n).map fun j => if f j then (1 : Int) else 0).sum ∧ (((ups a n).map fun j => if f j then (1 : Int) else 0).sum = 0 ↔ ((ups a n).all fun j => !f j) = true)
  | 0, a => ⟨Int.le_refl _, by simp [ups]⟩
  | n + 1, a => by
    obtain ⟨i1, i2⟩ := sum_zero f n (a + 1)
    rw [ups, List.map_cons, List.sum_cons, List.all_cons]
    cases hf : f a with
    | true =>
      refine ⟨by simp; omega, ?_⟩
      constructor
      · intro z
        simp at z
        omega
      · intro z
        simp at z
    | false =>
      refine ⟨by simp; omega, ?_⟩
      simp only [Bool.false_eq_true, if_false, Int.zero_add, Bool.not_false, Bool.true_and]
      exact i2
theorem sum_go (f : Int → Bool) (n : Nat) (a : Int) (π : Rt) : ∃ s : Int, sumM [.lst ((ups a n).map fun j => .int (if f j then 1 else 0))] π = .ok (.int s) π ∧ decide (s = 0) = (ups a n).all fun j => !f j := by
  refine ⟨((ups a n).map fun j => if f j then (1 : Int) else 0).sum, ?_, ?_⟩
  · have : ((ups a n).map fun j => D.int (if f j then 1 else 0)) = (((ups a n).map fun j => if f j then (1 : Int) else 0)).map D.int := by rw [List.map_map]; rfl
    rw [this]
    show ofO ((asInts _).map fun bs => D.int bs.sum) π = _
    rw [asInts_map]
    rfl
  · have := (sum_zero f n a).2
    rw [Bool.eq_iff_iff, decide_eq_true_eq]
    exact this
theorem fill_tk {g : GM} {s : SM} {E : List D → Option SV → Ev} {π : Rt} {N : Nat} (hg : ∀ (i : Int) (cs : List D) (x : Option SV), g (.int i) (E cs x) = some (E cs (some (.dat (.int i)))))
    (hs : ∀ (f : Int → Bool) (i : Int), 0 ≤ i → i < N → s (E (tkL N f) (some (.dat (.int i)))) π = .nx (E (tkL N fun j => decide (j = i) || f j) (some (.dat (.int i)))) π) :
    ∀ (m : Nat) (a : Int) (f : Int → Bool) (x : Option SV), 0 ≤ a → a + m ≤ N → ∃ x', forGo g s ((ups a m).map D.int) (E (tkL N f) x) π = .nx (E (tkL N fun j => (decide (a ≤ j) && decide (j < a + m)) || f j) x') π
  | 0, a, f, x, h0, h1 => ⟨x, by
    rw [show (tkL N fun j => (decide (a ≤ j) && decide (j < a + (0 : Nat))) || f j) = tkL N f from tk_congr fun k _ _ => by
      have : (decide (a ≤ k) && decide (k < a + (0 : Nat))) = false := by
        rw [Bool.and_eq_false_iff, decide_eq_false_iff_not, decide_eq_false_iff_not]
        omega
      rw [this, Bool.false_or]]
    rfl⟩
  | m + 1, a, f, x, h0, h1 => by
    obtain ⟨x', e⟩ := fill_tk hg hs m (a + 1) (fun j => decide (j = a) || f j) (some (.dat (.int a))) (by omega) (by omega)
    refine ⟨x', ?_⟩
    rw [ups, List.map_cons, for_cons (hg _ _ _) (hs f a h0 (by omega)), e]
    congr 1
    rw [show (tkL N fun j => (decide (a + 1 ≤ j) && decide (j < a + 1 + (m : Nat))) || (decide (j = a) || f j)) = tkL N fun j => (decide (a ≤ j) && decide (j < a + ((m + 1 : Nat) : Int))) || f j from tk_congr fun k _ _ => by
      rw [← Bool.or_assoc]
      congr 1
      rw [Bool.eq_iff_iff]
      simp only [Bool.or_eq_true, Bool.and_eq_true, decide_eq_true_eq]
      omega]
theorem tkB_snoc (ps : List (Int × Int)) (p : Int × Int) (k : Int) : tkB (ps ++ [p]) k = ((decide (p.1 ≤ k) && decide (k < p.1 + p.2)) || tkB ps k) := by
  unfold tkB
  rw [List.any_append, Bool.or_comm]
  simp [onB]
/-- the first taken place from one on -/
theorem find_tk (f : Int → Bool) : ∀ (l n : Nat) (a : Int), l < n → (∀ k, a ≤ k → k < a + l → f k = false) → f (a + l) = true → ((ups a n).map fun j => if f j then (1 : Int) else 0).findIdx? (fun z => decide (z = 1)) = some l
  | l, 0, a, h, _, _ => by omega
  | 0, n + 1, a, _, _, h2 => by
    rw [ups, List.map_cons, List.findIdx?_cons]
    have : f a = true := by simpa using h2
    simp [this]
  | l + 1, n + 1, a, h, h1, h2 => by
    rw [ups, List.map_cons, List.findIdx?_cons]
    have : f a = false := h1 a (by omega) (by omega)
    have ih := find_tk f l n (a + 1) (by omega) (fun k k1 k2 => h1 k (by omega) (by omega)) (by rw [← h2]; congr 1; omega)
    simp [this, ih]
theorem index_tk {f : Int → Bool} {l n : Nat} {a : Int} (h : l < n) (h1 : ∀ k, a ≤ k → k < a + l → f k = false) (h2 : f (a + l) = true) (π : Rt) : indexL ((ups a n).map fun j => .int (if f j then 1 else 0)) (.int 1) π = .ok (.int (l : Nat)) π := by
  have : ((ups a n).map fun j => D.int (if f j then 1 else 0)) = (((ups a n).map fun j => if f j then (1 : Int) else 0)).map D.int := by rw [List.map_map]; rfl
  rw [this]
  exact indexL_ints (find_tk f l n a h h1 h2)
/-! strides -/
def strideP (n : Int) : Int := if n ≤ 1 then 1 else if n ≤ 2 then 2 else if n ≤ 4 then 4 else if n ≤ 8 then 8 else if n ≤ 16 then 16 else 32
theorem stride_pos (n : Int) : 1 ≤ strideP n ∧ strideP n ≤ 32 := by
  unfold strideP
  repeat' split
  all_goals omega
theorem stride_of_ok {n : Int} (h : n ≤ 32) (π : Rt) : R_stride_of [.int n] π = .ok (.dat (.int (strideP n))) π := by
  rw [R_stride_of, run_eq [some (.dat (.int n)), none] rfl]
  unfold W_stride_of
  refine step_nx (P := fun o => outB o = .ok (.dat (.int (strideP n))) π) (ρ1 := [some (.dat (.int n)), some (.dat (.int 1))]) (π1 := π) (by simp) ?_
  have go : ∀ (t : Ev → EM Bool) (s : SM), (∀ f : Int, t [some (.dat (.int n)), some (.dat (.int f))] π = .ok (decide (f < n)) π) → (∀ f : Int, f < 2 ^ 60 → 0 ≤ f → s [some (.dat (.int n)), some (.dat (.int f))] π = .nx [some (.dat (.int n)), some (.dat (.int (2 * f)))] π) →
      whileGo t s 1000 [some (.dat (.int n)), some (.dat (.int 1))] π = .nx [some (.dat (.int n)), some (.dat (.int (strideP n)))] π := fun t s ht hs => by
    have up : ∀ (k : Nat) (f : Int), f < n → f < 2 ^ 60 → 0 ≤ f → whileGo t s (k + 1) [some (.dat (.int n)), some (.dat (.int f))] π = whileGo t s k [some (.dat (.int n)), some (.dat (.int (2 * f)))] π := fun k f h1 h2 h3 => while_t k (by rw [ht f, decide_eq_true h1]) (hs f h2 h3)
    have dn : ∀ (k : Nat) (f : Int), ¬ f < n → whileGo t s (k + 1) [some (.dat (.int n)), some (.dat (.int f))] π = .nx [some (.dat (.int n)), some (.dat (.int f))] π := fun k f h1 => while_f k (by rw [ht f, decide_eq_false h1])
    unfold strideP
    by_cases c1 : n ≤ 1
    · rw [if_pos c1]; exact dn 999 1 (by omega)
    rw [if_neg c1]
    refine (up 999 1 (by omega) (by decide) (by decide)).trans ?_
    by_cases c2 : n ≤ 2
    · rw [if_pos c2]; exact dn 998 2 (by omega)
    rw [if_neg c2]
    refine (up 998 2 (by omega) (by decide) (by decide)).trans ?_
    by_cases c3 : n ≤ 4
    · rw [if_pos c3]; exact dn 997 4 (by omega)
    rw [if_neg c3]
    refine (up 997 4 (by omega) (by decide) (by decide)).trans ?_
    by_cases c4 : n ≤ 8
    · rw [if_pos c4]; exact dn 996 8 (by omega)
    rw [if_neg c4]
    refine (up 996 8 (by omega) (by decide) (by decide)).trans ?_
    by_cases c5 : n ≤ 16
    · rw [if_pos c5]; exact dn 995 16 (by omega)
    rw [if_neg c5]
    refine (up 995 16 (by omega) (by decide) (by decide)).trans ?_
    exact dn 994 32 (by omega)
  have e := go (eT (eBin ltM (eVar 1) (eVar 0))) (sSet 1 (eBin mulM (eC (.int 2)) (eVar 1))) (fun f => by simp) (fun f h1 h2 => by
    have : (fits 2 || fits f) = true := rfl
    simp [o_mul this])
  simp only [r_seq]
  show outB (soS _ (whileGo _ _ 1000 _ _)) = _
  rw [e]
  simp
/-! whether places are free -/
theorem is_free_ok {ps : List (Int × Int)} (hl : ps.length ≤ 1000) (k n : Int) (π : Rt) : R_is_free [.tup (ps.map plD), .int k, .int n] π = .ok (.dat (.bl (frB ps n k))) π := by
  have hm : most = 1000000 := rfl
  have hpm : ps.length ≤ most := by omega
  have c1 : compGo (gN 3) tYes_ (eOr (eBin leM (eVal (eCall R_end_of (aCons (eVar 3) aNil))) (eVar 1)) (eBin leM (eBin addM (eVar 1) (eVar 2)) (eBin ixM (eVar 3) (eC (.int 0))))) [some (.dat (.tup (ps.map plD))), some (.dat (.int k)), some (.dat (.int n)), none] (ps.map plD) π = .ok ((ps.map fun p => decide (p.1 + p.2 ≤ k) || decide (k + n ≤ p.1)).map D.bl) π := by
    refine (compGo_map (h := fun d => match d with
      | .tup [.int a, .int b] => .bl (decide (a + b ≤ k) || decide (k + n ≤ a))
      | d => d) _ fun d hd => ?_).trans ?_
    · obtain ⟨p, _, rfl⟩ := List.mem_map.mp hd
      have e := end_ok p.1 p.2 π
      have b0 : atI [D.int p.1, .int p.2] 0 = some (.int p.1) := rfl
      refine ⟨_, rfl, rfl, ?_⟩
      by_cases c : p.1 + p.2 ≤ k
      · simp [plD, e, b0, c]
      · simp [plD, e, b0, c]
    · rw [List.map_map, List.map_map]
      rfl
  have c2 := allM_bls (ps.map fun p => decide (p.1 + p.2 ≤ k) || decide (k + n ≤ p.1)) π
  have c3 : (ps.map fun p => decide (p.1 + p.2 ≤ k) || decide (k + n ≤ p.1)).all id = frB ps n k := by
    rw [List.all_map]
    rfl
  rw [c3] at c2
  generalize (ps.map fun p => decide (p.1 + p.2 ≤ k) || decide (k + n ≤ p.1)).map D.bl = zs at *
  simp [R_is_free, W_is_free, hpm, c1, c2]
end G_k12

namespace G_k12
open PySem PySem.Spec PyProof.Rows L2 LamX DL
theorem head_least (P : Int → Bool) : ∀ (n : Nat) (a : Int) (T : Int) (t : List Int), (ups a n).filter P = T :: t → P T = true ∧ a ≤ T ∧ T < a + n ∧ ∀ k, a ≤ k → k < T → P k = false
  | 0, a, T, t, h => by simp [ups] at h
  | n + 1, a, T, t, h => by
    rw [ups, List.filter_cons] at h
    cases hp : P a with
    | true =>
      rw [hp, if_pos rfl] at h
      injection h with h1 _
      subst h1
      exact ⟨hp, Int.le_refl _, by omega, fun k h1 h2 => by omega⟩
    | false =>
      rw [hp, if_neg (by decide)] at h
      obtain ⟨i1, i2, i3, i4⟩ := head_least P n (a + 1) T t h
      refine ⟨i1, by omega, by omega, fun k h1 h2 => ?_⟩
      by_cases e : k = a
      · rw [e]; exact hp
      · exact i4 k (by omega) h2
def evB (ps : List (Int × Int)) (n k : Int) : Bool := frB ps n k && decide (k % strideP n = 0)
def evenP (ps : List (Int × Int)) (n : Int) : Int := ((ups 0 ((endP 0 ps).toNat + 40)).filter (evB ps n)).headD 0
theorem even_ex {hi : Int} {ps : List (Int × Int)} (h : layP hi 0 ps) (n : Int) : ∃ t, (ups 0 ((endP 0 ps).toNat + 40)).filter (evB ps n) = evenP ps n :: t := by
  obtain ⟨s1, s2⟩ := stride_pos n
  have hge := endP_ge ps 0 h
  have hend : ∀ p ∈ ps, p.1 + p.2 ≤ endP 0 ps := by
    have : ∀ (ps : List (Int × Int)) (lo : Int), layP hi lo ps → ∀ p ∈ ps, p.1 + p.2 ≤ endP lo ps := by
      intro ps
      induction ps with
      | nil => exact fun lo _ p z => absurd z List.not_mem_nil
      | cons q r ih =>
        intro lo h p hp
        obtain ⟨h1, h2, h3, h4⟩ := h
        rcases List.mem_cons.mp hp with rfl | hp
        · exact endP_ge r _ h4
        · exact ih _ h4 p hp
    exact this ps 0 h
  have m0 : ((endP 0 ps + strideP n - 1) / strideP n * strideP n) % strideP n = 0 := Int.mul_emod_left _ _
  have m1 := Int.ediv_mul_le (endP 0 ps + strideP n - 1) (show strideP n ≠ 0 by omega)
  have m2 := Int.lt_ediv_add_one_mul_self (endP 0 ps + strideP n - 1) (show 0 < strideP n by omega)
  rw [Int.add_mul, Int.one_mul] at m2
  generalize (endP 0 ps + strideP n - 1) / strideP n * strideP n = M at *
  have hin : M ∈ (ups 0 ((endP 0 ps).toNat + 40)).filter (evB ps n) := by
    refine List.mem_filter.mpr ⟨mem_ups _ _ _ (by omega) (by omega), ?_⟩
    unfold evB
    rw [m0, Bool.and_eq_true]
    refine ⟨List.all_eq_true.mpr fun p hp => ?_, by decide⟩
    have := hend p hp
    have : p.1 + p.2 ≤ M := by omega
    simp [this]
  unfold evenP
  cases hl : (ups 0 ((endP 0 ps).toNat + 40)).filter (evB ps n) with
  | nil =>
    rw [hl] at hin
    cases hin
  | cons T t => exact ⟨t, rfl⟩
theorem even_start_ok {hi : Int} {ps : List (Int × Int)} (h : layP hi 0 ps) (hhi : hi ≤ 500) (hl : ps.length ≤ 1000) {n : Int} (hn : n ≤ 32) (π : Rt) : R_even_start [.tup (ps.map plD), .int n] π = .ok (.dat (.int (evenP ps n))) π := by
  obtain ⟨t, hevx⟩ := even_ex h n
  obtain ⟨p1, p2, p3, p4⟩ := head_least _ _ _ _ _ hevx
  have h100 := endP_le ps 0 (show (0 : Int) ≤ max hi 0 by omega) (by
    have : ∀ (ps : List (Int × Int)) (lo : Int), layP hi lo ps → layP (max hi 0) lo ps := by
      intro ps
      induction ps with
      | nil => exact fun lo _ => trivial
      | cons q r ih =>
        intro lo h
        obtain ⟨h1, h2, h3, h4⟩ := h
        exact ⟨h1, h2, by omega, ih _ h4⟩
    exact this ps 0 h)
  obtain ⟨s1, s2⟩ := stride_pos n
  have e1 := stride_of_ok hn π
  have e2 := fun k => is_free_ok hl k n π
  generalize hT : evenP ps n = T at *
  have hT0 : T % strideP n = 0 := by
    unfold evB at p1
    rw [Bool.and_eq_true] at p1
    simpa using p1.2
  have hfr : frB ps n T = true := by
    unfold evB at p1
    rw [Bool.and_eq_true] at p1
    exact p1.1
  have hno : ∀ k : Int, 0 ≤ k → k < T → k % strideP n = 0 → frB ps n k = false := fun k k0 k1 k2 => by
    have := p4 k k0 k1
    unfold evB at this
    rw [k2] at this
    simpa using this
  generalize strideP n = st at *
  rw [R_even_start, run_eq [some (.dat (.tup (ps.map plD))), some (.dat (.int n)), none, none] rfl]
  unfold W_even_start
  refine step_nx (P := fun o => outB o = .ok (.dat (.int T)) π) (ρ1 := [some (.dat (.tup (ps.map plD))), some (.dat (.int n)), some (.dat (.int st)), none]) (π1 := π) (by simp [e1]) ?_
  refine step_nx (P := fun o => outB o = .ok (.dat (.int T)) π) (ρ1 := [some (.dat (.tup (ps.map plD))), some (.dat (.int n)), some (.dat (.int st)), some (.dat (.int 0))]) (π1 := π) (by simp) ?_
  have go : ∀ (tt : Ev → EM Bool) (s : SM), (∀ f : Int, tt [some (.dat (.tup (ps.map plD))), some (.dat (.int n)), some (.dat (.int st)), some (.dat (.int f))] π = .ok (!frB ps n f) π) → (∀ f : Int, s [some (.dat (.tup (ps.map plD))), some (.dat (.int n)), some (.dat (.int st)), some (.dat (.int f))] π = .nx [some (.dat (.tup (ps.map plD))), some (.dat (.int n)), some (.dat (.int st)), some (.dat (.int (f + st)))] π) →
      ∀ (d : Nat) (f : Int) (m : Nat), f + d * st = T → 0 ≤ f → f % st = 0 → whileGo tt s (d + 1 + m) [some (.dat (.tup (ps.map plD))), some (.dat (.int n)), some (.dat (.int st)), some (.dat (.int f))] π = .nx [some (.dat (.tup (ps.map plD))), some (.dat (.int n)), some (.dat (.int st)), some (.dat (.int T))] π := fun tt s ht hs d => by
    induction d with
    | zero =>
      intro f m hf f0 fm
      have hf : f = T := by simpa using hf
      subst hf
      rw [show 0 + 1 + m = m + 1 by omega]
      exact while_f m (by rw [ht f, hfr]; rfl)
    | succ d ih =>
      intro f m hf f0 fm
      have hlt : f < T := by
        have : ((d + 1 : Nat) : Int) * st = d * st + st := by rw [Int.natCast_add, Int.add_mul]; simp
        have h2 : 0 ≤ (d : Int) * st := Int.mul_nonneg (by omega) (by omega)
        omega
      rw [show d + 1 + 1 + m = (d + 1 + m) + 1 by omega, while_t (d + 1 + m) (by rw [ht f, hno f f0 hlt fm]; rfl) (hs f)]
      refine ih (f + st) m ?_ (by omega) (by rw [Int.add_emod_right]; exact fm)
      have : ((d + 1 : Nat) : Int) * st = d * st + st := by rw [Int.natCast_add, Int.add_mul]; simp
      omega
  have e := go (tNot_ (eT (eVal (eCall R_is_free (aCons (eVar 0) (aCons (eVar 3) (aCons (eVar 1) aNil))))))) (sAug 3 (fun i j => i + j) (eVar 2)) (fun f => by simp [e2]) (fun f => by simp)
    (T / st).toNat 0 (999 - (T / st).toNat) (by
      have hq : 0 ≤ T / st := Int.ediv_nonneg (by omega) (by omega)
      rw [Int.toNat_of_nonneg hq, Int.ediv_mul_cancel (Int.dvd_of_emod_eq_zero hT0)]
      omega) (Int.le_refl _) (by simp)
  have hsm : (T / st).toNat ≤ 999 := by
    have : T / st ≤ T := by
      have := Int.ediv_le_self (a := T) st (by omega)
      exact this
    omega
  rw [show (T / st).toNat + 1 + (999 - (T / st).toNat) = 1000 by omega] at e
  simp only [r_seq]
  show outB (soS _ (whileGo _ _ 1000 _ _)) = _
  rw [e]
  simp
theorem idx_pick (goal : Int) : ∀ fs : List (Int × Int), goal ∈ fs.map (·.2) → ∃ j, (fs.map (·.2)).findIdx? (fun z => decide (z = goal)) = some j ∧ ∃ q, fs[j]? = some q ∧ q.1 = pickG goal fs
  | [], h => by simp at h
  | q :: r, h => by
    rw [List.map_cons, List.findIdx?_cons]
    unfold pickG
    rw [List.find?_cons]
    by_cases c : q.2 = goal
    · rw [decide_eq_true c]
      exact ⟨0, rfl, q, rfl, rfl⟩
    · rw [decide_eq_false c]
      have h' : goal ∈ r.map (·.2) := by
        rw [List.map_cons] at h
        rcases List.mem_cons.mp h with e | e
        · exact absurd e.symm c
        · exact e
      obtain ⟨j, j1, z, z1, z2⟩ := idx_pick goal r h'
      refine ⟨j + 1, ?_, z, by simpa using z1, z2⟩
      simp [j1]
theorem gap_fit_go {qs : List (Int × Int)} {g : GM} {t : Ev → EM Bool} {f : Ev → EM D} {ρ : Ev} {π : Rt} (n : Int) (h : ∀ p : Int × Int, ∃ ρ', g (plD p) ρ = some ρ' ∧ t ρ' π = .ok (decide (n ≤ p.2)) π ∧ f ρ' π = .ok (plD p) π) : compGo g t f ρ (qs.map plD) π = .ok ((fitsG n qs).map plD) π := by
  refine (compGo_filter (p := fun d => match d with
    | .tup [.int a, .int b] => decide (n ≤ b)
    | _ => false) (h := id) _ fun d hd => ?_).trans ?_
  · obtain ⟨p, _, rfl⟩ := List.mem_map.mp hd
    obtain ⟨ρ', g1, g2, g3⟩ := h p
    exact ⟨ρ', g1, g2, fun _ => g3⟩
  · rw [List.filter_map, List.map_id]
    rfl
theorem lens_go (qs : List (Int × Int)) (g : GM) (f : Ev → EM D) (ρ : Ev) (π : Rt) (h : ∀ p : Int × Int, ∃ ρ', g (plD p) ρ = some ρ' ∧ f ρ' π = .ok (.int p.2) π) : compGo g tYes_ f ρ (qs.map plD) π = .ok ((qs.map fun p => p.2).map D.int) π := by
  refine (compGo_map (h := fun d => match d with
    | .tup [.int a, .int b] => .int b
    | d => d) _ fun d hd => ?_).trans ?_
  · obtain ⟨p, _, rfl⟩ := List.mem_map.mp hd
    obtain ⟨ρ', g1, g2⟩ := h p
    exact ⟨ρ', g1, rfl, g2⟩
  · rw [List.map_map, List.map_map]
    rfl
theorem minM_ok (ns : List Int) (h : ns ≠ []) (π : Rt) : minM [.lst (ns.map D.int)] π = .ok (.int (minL ns)) π := by
  show ofO (((asInts (ns.map D.int)).bind ne1).map fun ns => D.int (minL ns)) π = _
  rw [asInts_map, Option.bind_some]
  unfold ne1
  rw [if_neg (by simpa using h)]
  rfl
def lastB : Rule → Bool
  | .last => true
  | _ => false
theorem chosen_ok {r : Rule} (hr : r = .first ∨ r = .last ∨ r = .best ∨ r = .worst) {fs : List (Int × Int)} (hf : fs ≠ []) (hl : fs.length ≤ 1000) (n : Int) (π : Rt) : ∃ q : Int × Int, R_chosen_gap [.str (ruleS r), .lst (fs.map plD)] π = .ok (.dat (plD q)) π ∧ (if lastB r = true then q.1 + q.2 - n else q.1) = gapP r n fs := by
  have hm : most = 1000000 := rfl
  have hlm : fs.length ≤ most := by omega
  obtain ⟨q0, fr, rfl⟩ : ∃ q t, fs = q :: t := by
    cases fs with
    | nil => exact absurd rfl hf
    | cons q t => exact ⟨q, t, rfl⟩
  have b0 : atI ((q0 :: fr).map plD) 0 = some (plD q0) := by rw [atI_get (by decide) (by simp)]; rfl
  obtain ⟨ys, ql, hys⟩ := snoc_of (q0 :: fr) (by simp)
  have bl : atI ((q0 :: fr).map plD) (-1) = some (plD ql) := by rw [hys, List.map_append]; exact atI_last _ _
  have hlast : (q0 :: fr).getLastD (0, 0) = ql := by rw [hys]; simp
  have c1 : ∀ π, compGo (gT 2 (gCons_ (gN 2) (gCons_ (gN 3) gNil_))) tYes_ (eVar 3) [some (.dat (.str (ruleS r))), some (.dat (.lst ((q0 :: fr).map plD))), none, none, none, none] ((q0 :: fr).map plD) π = .ok (((q0 :: fr).map fun p => p.2).map D.int) π := fun π => lens_go (q0 :: fr) _ _ _ π fun p => ⟨_, rfl, rfl⟩
  have hne : ((q0 :: fr).map fun p => p.2) ≠ [] := by simp
  have m1 := fun π => minM_ok _ hne π
  have m2 := fun π => maxXM_ints _ hne π
  obtain ⟨j1, jj1, z1, jz1, jw1⟩ := idx_pick (minL ((q0 :: fr).map fun p => p.2)) (q0 :: fr) (minL_mem hne)
  obtain ⟨j2, jj2, z2, jz2, jw2⟩ := idx_pick (maxL ((q0 :: fr).map fun p => p.2)) (q0 :: fr) (maxL_mem hne)
  have i1 := fun π => indexL_ints (π := π) jj1
  have i2 := fun π => indexL_ints (π := π) jj2
  have at1 : ∀ (j : Nat) (z : Int × Int), (q0 :: fr)[j]? = some z → atI ((q0 :: fr).map plD) (j : Nat) = some (plD z) := fun j z h => by
    obtain ⟨h1, h2⟩ := List.getElem?_eq_some_iff.mp h
    rw [atI_get (by omega) (by simpa using h1)]
    simp only [Int.toNat_natCast, List.getElem_map, h2]
  have a1 := at1 j1 z1 jz1
  have a2 := at1 j2 z2 jz2
  have hgf : ∀ n, gapP .first n (q0 :: fr) = q0.1 := fun n => rfl
  have hgl : ∀ n, gapP .last n (q0 :: fr) = ql.1 + ql.2 - n := fun n => by show ((q0 :: fr).getLastD (0, 0)).1 + ((q0 :: fr).getLastD (0, 0)).2 - n = _; rw [hlast]
  have hgb : ∀ n, gapP .best n (q0 :: fr) = z1.1 := fun n => jw1.symm
  have hgw : ∀ n, gapP .worst n (q0 :: fr) = z2.1 := fun n => jw2.symm
  have hlm : ((q0 :: fr).map plD).length ≤ most := by rw [List.length_map]; exact hlm
  generalize ((q0 :: fr).map fun p => p.2) = lens at *
  generalize (q0 :: fr).map plD = gs at *
  rcases hr with rfl | rfl | rfl | rfl
  · refine ⟨q0, ?_, by rw [hgf]; rfl⟩
    simp [R_chosen_gap, W_chosen_gap, ruleS, e_first_first, b0]
  · refine ⟨ql, ?_, by rw [hgl]; rfl⟩
    simp [R_chosen_gap, W_chosen_gap, ruleS, e_last_first, e_last_last, bl]
  · refine ⟨z1, ?_, by rw [hgb]; rfl⟩
    have c1 : ∀ π, compGo _ _ _ [some (.dat (.str "best")), _, none, none, none, none] gs π = _ := c1
    simp [R_chosen_gap, W_chosen_gap, ruleS, e_best_first, e_best_last, e_best_best, hlm, c1, m1, i1, a1]
  · refine ⟨z2, ?_, by rw [hgw]; rfl⟩
    have c1 : ∀ π, compGo _ _ _ [some (.dat (.str "worst")), _, none, none, none, none] gs π = _ := c1
    simp [R_chosen_gap, W_chosen_gap, ruleS, e_worst_first, e_worst_last, e_worst_best, hlm, c1, m2, i2, a2]
def placeP (r : Rule) (ps : List (Int × Int)) (n : Int) : Int := match r with
  | .even => evenP ps n
  | r => if fitsG n (gapL 0 ps) = [] then endP 0 ps else gapP r n (fitsG n (gapL 0 ps))
theorem place_for_ok (r : Rule) {hi : Int} {ps : List (Int × Int)} (h : layP hi 0 ps) (hhi : hi ≤ 500) (hl : ps.length ≤ 900) {n : Int} (hn : n ≤ 32) (π : Rt) : R_place_for [.str (ruleS r), .tup (ps.map plD), .int n] π = .ok (.dat (.int (placeP r ps n))) π := by
  have hm : most = 1000000 := rfl
  by_cases hev : r = .even
  · subst hev
    have e := even_start_ok h hhi (by omega) hn π
    simp [R_place_for, W_place_for, ruleS, e_even_even, e, placeP]
  · have hr : r = .first ∨ r = .last ∨ r = .best ∨ r = .worst := by
      cases r with
      | first => exact .inl rfl
      | last => exact .inr (.inl rfl)
      | best => exact .inr (.inr (.inl rfl))
      | worst => exact .inr (.inr (.inr rfl))
      | even => exact absurd rfl hev
    have hp : placeP r ps n = if fitsG n (gapL 0 ps) = [] then endP 0 ps else gapP r n (fitsG n (gapL 0 ps)) := by
      rcases hr with rfl | rfl | rfl | rfl <;> rfl
    have e1 := gaps_below_ok (ps := ps) (by omega) π
    have e2 := top_ok ps π
    have hg := gap_len ps 0
    have hgm : (gapL 0 ps).length ≤ most := by omega
    have hfl : (fitsG n (gapL 0 ps)).length ≤ 1000 := Nat.le_trans (List.length_filter_le _ _) (by omega)
    have c1 : ∀ (x : Str), compGo (gN 3) (eT (eBin geM (eBin ixM (eVar 3) (eC (.int 1))) (eVar 2))) (eVar 3) [some (.dat (.str x)), some (.dat (.tup (ps.map plD))), some (.dat (.int n)), none, none, none, none] ((gapL 0 ps).map plD) π = .ok ((fitsG n (gapL 0 ps)).map plD) π := fun x => gap_fit_go n fun p => by
      have b1 : atI [D.int p.1, .int p.2] 1 = some (.int p.2) := rfl
      exact ⟨_, rfl, by simp [plD, b1], rfl⟩
    rw [hp]
    by_cases hf : fitsG n (gapL 0 ps) = []
    · rw [if_pos hf]
      rw [hf] at c1
      rcases hr with rfl | rfl | rfl | rfl
      · simp [R_place_for, W_place_for, ruleS, e_first_even, e1, hgm, c1, e2]
      · simp [R_place_for, W_place_for, ruleS, e_last_even, e1, hgm, c1, e2]
      · simp [R_place_for, W_place_for, ruleS, e_best_even, e1, hgm, c1, e2]
      · simp [R_place_for, W_place_for, ruleS, e_worst_even, e1, hgm, c1, e2]
    · rw [if_neg hf]
      obtain ⟨q, hq, hq2⟩ := chosen_ok hr hf hfl n π
      have hne : ((fitsG n (gapL 0 ps)).map plD).length ≠ 0 := by
        rw [List.length_map]
        exact fun z => hf (List.length_eq_zero_iff.mp z)
      have hne2 : ¬ ((((fitsG n (gapL 0 ps)).map plD).length : Nat) : Int) = 0 := by omega
      rw [← hq2]
      generalize (fitsG n (gapL 0 ps)).map plD = gs at *
      have hgs : gs ≠ [] := fun z => hne (by rw [z]; rfl)
      rcases hr with rfl | rfl | rfl | rfl
      · have hq : R_chosen_gap [.str "first", .lst gs] π = _ := hq
        simp [R_place_for, W_place_for, ruleS, e_first_even, e_first_last, e1, hgm, c1, hgs, hq, plD, lastB]
      · have hq : R_chosen_gap [.str "last", .lst gs] π = _ := hq
        simp [R_place_for, W_place_for, ruleS, e_last_even, e_last_last, e1, hgm, c1, hgs, hq, plD, lastB]
      · have hq : R_chosen_gap [.str "best", .lst gs] π = _ := hq
        simp [R_place_for, W_place_for, ruleS, e_best_even, e_best_last, e1, hgm, c1, hgs, hq, plD, lastB]
      · have hq : R_chosen_gap [.str "worst", .lst gs] π = _ := hq
        simp [R_place_for, W_place_for, ruleS, e_worst_even, e_worst_last, e1, hgm, c1, hgs, hq, plD, lastB]
end G_k12

namespace G_k12
open PySem PySem.Spec PyProof.Rows L2 LamX DL
/-! the law's own place -/
theorem ends_go (qs : List (Int × Int)) (g : GM) (f : Ev → EM D) (ρ : Ev) (π : Rt) (h : ∀ p : Int × Int, ∃ ρ', g (plD p) ρ = some ρ' ∧ f ρ' π = .ok (.int (p.1 + p.2)) π) : compGo g tYes_ f ρ (qs.map plD) π = .ok ((qs.map fun p => p.1 + p.2).map D.int) π := by
  refine (compGo_map (h := fun d => match d with
    | .tup [.int a, .int b] => .int (a + b)
    | d => d) _ fun d hd => ?_).trans ?_
  · obtain ⟨p, _, rfl⟩ := List.mem_map.mp hd
    obtain ⟨ρ', g1, g2⟩ := h p
    exact ⟨ρ', g1, rfl, g2⟩
  · rw [List.map_map, List.map_map]
    rfl
theorem add_max {zs : List Int} (h : zs.length ≤ 1000) (π : Rt) : addM (.lst [.int 0]) (.lst (zs.map D.int)) π = .ok (.lst ((0 :: zs).map D.int)) π := by
  have hz : (1001 : Nat) ≤ sizeLine := by decide
  show ((if [D.int 0].length + (zs.map D.int).length ≤ sizeLine then pure (.lst ([.int 0] ++ zs.map D.int)) else EM.bad : EM D) π) = _
  rw [if_pos (by simp; omega)]
  rfl
theorem sort_head {xs : List (Int × Int)} {m : Int × Int} (hm : m ∈ xs) (hle : ∀ y ∈ xs, leP m y = true) : ∃ t, sortP xs = m :: t := by
  have perm := List.mergeSort_perm xs leP
  have tot : ∀ a b : Int × Int, (leP a b || leP b a) = true := fun a b => by
    unfold leP
    rw [Bool.or_eq_true, decide_eq_true_eq, decide_eq_true_eq]
    omega
  have trans : ∀ a b c : Int × Int, leP a b = true → leP b c = true → leP a c = true := fun a b c h1 h2 => by
    unfold leP at *
    rw [decide_eq_true_eq] at *
    omega
  have srt := List.pairwise_mergeSort trans tot xs
  unfold sortP
  cases hs : xs.mergeSort leP with
  | nil =>
    rw [hs] at perm
    have := perm.mem_iff (a := m)
    simp [hm] at this
  | cons h t =>
    rw [hs] at perm srt
    have h1 : h ∈ xs := perm.mem_iff.mp List.mem_cons_self
    have h2 := hle h h1
    have h3 : m ∈ h :: t := perm.mem_iff.mpr hm
    rcases List.mem_cons.mp h3 with rfl | h3
    · exact ⟨t, rfl⟩
    · have h4 := (List.pairwise_cons.mp srt).1 m h3
      have : h = m := by
        unfold leP at h2 h4
        rw [decide_eq_true_eq] at h2 h4
        refine Prod.ext ?_ ?_ <;> omega
      exact ⟨t, by rw [this]⟩
theorem maxP_fst : ∀ (ps : List (Int × Int)) (p : Int × Int), (maxP p ps).1 = maxL ((p :: ps).map (·.1))
  | [], p => rfl
  | q :: r, p => by
    show (maxP (if p.1 < q.1 ∨ (p.1 = q.1 ∧ p.2 < q.2) then q else p) r).1 = maxL ((p :: q :: r).map (·.1))
    rw [maxP_fst r]
    show maxL ((if p.1 < q.1 ∨ (p.1 = q.1 ∧ p.2 < q.2) then q else p).1 :: r.map (·.1)) = (r.map (·.1)).foldl (fun m y => if m < y then y else m) (if p.1 < q.1 then q.1 else p.1)
    have : (if p.1 < q.1 ∨ (p.1 = q.1 ∧ p.2 < q.2) then q else p).1 = if p.1 < q.1 then q.1 else p.1 := by
      by_cases c : p.1 < q.1
      · rw [if_pos (.inl c), if_pos c]
      · rw [if_neg c]
        split
        · omega
        · rfl
    rw [this]
    rfl
theorem head_ex {α : Type} {l : List α} {x : α} (h : l.head? = some x) : ∃ t, l = x :: t := by
  cases l with
  | nil => cases h
  | cons a t =>
    cases h
    exact ⟨t, rfl⟩
theorem stride_law {n : Int} (h : n ≤ 32) : ∃ t, ([1, 2, 4, 8, 16, 32] : List Int).filter (fun z => decide (n ≤ z)) = strideP n :: t := by
  refine head_ex ?_
  unfold strideP
  by_cases c1 : n ≤ 1
  · simp [c1]
  by_cases c2 : n ≤ 2
  · simp [c1, c2]
  by_cases c3 : n ≤ 4
  · simp [c1, c2, c3]
  by_cases c4 : n ≤ 8
  · simp [c1, c2, c3, c4]
  by_cases c5 : n ≤ 16
  · simp [c1, c2, c3, c4, c5]
  · simp [c1, c2, c3, c4, c5, h]
theorem comp_wide {g : GM} {t : Ev → EM Bool} {f : Ev → EM D} {ρ : Ev} {π : Rt} (goal : Int) (ws : List (Int × Int)) (h : ∀ p : Int × Int, ∃ ρ', g (plD p) ρ = some ρ' ∧ t ρ' π = .ok (decide (p.1 = goal)) π ∧ f ρ' π = .ok (.int p.2) π) : compGo g t f ρ (ws.map plD) π = .ok (((ws.filter fun p => decide (p.1 = goal)).map (·.2)).map D.int) π := by
  refine (compGo_filter (p := fun d => match d with
    | .tup [.int a, .int b] => decide (a = goal)
    | _ => false) (h := fun d => match d with
    | .tup [.int a, .int b] => .int b
    | d => d) _ fun d hd => ?_).trans ?_
  · obtain ⟨p, _, rfl⟩ := List.mem_map.mp hd
    obtain ⟨ρ', g1, g2, g3⟩ := h p
    exact ⟨ρ', g1, g2, fun _ => g3⟩
  · rw [List.filter_map, List.map_map, List.map_map]
    rfl
theorem plT_pl (ps : List (Int × Int)) : ps.map plT = ps.map plD := rfl
theorem comp_in (g : GM) (t : Ev → EM Bool) (f : Ev → EM D) (ρ : Ev) (π : Rt) (p : Int → Bool) (is_ : List Int) (h : ∀ i ∈ is_, ∃ ρ', g (.int i) ρ = some ρ' ∧ t ρ' π = .ok (p i) π ∧ f ρ' π = .ok (.int i) π) :
    compGo g t f ρ (is_.map D.int) π = .ok ((is_.filter p).map D.int) π := by
  refine (compGo_filter (p := fun d => match d with
    | .int i => p i
    | _ => false) (h := id) _ fun d hd => ?_).trans ?_
  · obtain ⟨i, hi, rfl⟩ := List.mem_map.mp hd
    obtain ⟨ρ', g1, g2, g3⟩ := h i hi
    exact ⟨ρ', g1, g2, fun _ => g3⟩
  · rw [List.filter_map, List.map_id]
    rfl
theorem law_place_ok (r : Rule) {hi : Int} {ps : List (Int × Int)} (h : layP hi 0 ps) (hhi : hi ≤ 500) (hl : ps.length ≤ 100) {n : Nat} (hn1 : 1 ≤ n) (hn : n ≤ 32) (π : Rt) : R__law_place [.str (ruleS r), .tup (ps.map plD), .int (n : Nat)] π = .ok (.dat (.int (placeP r ps n))) π := by
  have hm : most = 1000000 := rfl
  have hpm : ps.length ≤ most := by omega
  have hge := endP_ge ps 0 h
  have hle : endP 0 ps ≤ max hi 0 := endP_le ps 0 (by omega) (by
    have : ∀ (ps : List (Int × Int)) (lo : Int), layP hi lo ps → layP (max hi 0) lo ps := by
      intro ps
      induction ps with
      | nil => exact fun lo _ => trivial
      | cons q r ih =>
        intro lo h
        obtain ⟨h1, h2, h3, h4⟩ := h
        exact ⟨h1, h2, by omega, ih _ h4⟩
    exact this ps 0 h)
  obtain ⟨H, hH⟩ : ∃ H : Nat, endP 0 ps = (H : Int) := ⟨(endP 0 ps).toNat, by omega⟩
  have hmem : ∀ p ∈ ps, 0 ≤ p.1 ∧ 0 < p.2 ∧ p.1 + p.2 ≤ (H : Int) := fun p hp => by
    obtain ⟨a1, a2, a3⟩ := layP_mem ps 0 (layP_top ps 0 (endP 0 ps) h (Int.le_refl _)) p hp
    rw [hH] at a3
    exact ⟨a1, a2, a3⟩
  obtain ⟨PL, hPL⟩ : ∃ x, placeP r ps (n : Nat) = x := ⟨_, rfl⟩
  rw [hPL]
  rw [R__law_place, run_eq [some (.dat (.str (ruleS r))), some (.dat (.tup (ps.map plD))), some (.dat (.int (n : Nat))), none, none, none, none, none, none, none, none, none, none] rfl]
  let PP : SO → Prop := fun o => outB o = .ok (.dat (.int PL)) π
  show PP _
  unfold W__law_place
  have c1 := ends_go ps (gT 2 (gCons_ (gN 3) (gCons_ (gN 4) gNil_))) (eBin addM (eVar 3) (eVar 4)) [some (.dat (.str (ruleS r))), some (.dat (.tup (ps.map plD))), some (.dat (.int (n : Nat))), none, none, none, none, none, none, none, none, none, none] π fun p => ⟨_, rfl, by simp⟩
  have c2 := add_max (zs := ps.map fun p => p.1 + p.2) (by rw [List.length_map]; omega) π
  have c3 := maxM_ok (0 :: ps.map fun p => p.1 + p.2) (by simp) π
  rw [max_ends ps 0 h, hH] at c3
  generalize (0 :: ps.map fun p => p.1 + p.2).map D.int = ws at c2 c3
  generalize (ps.map fun p => p.1 + p.2).map D.int = us at c1 c2
  refine step_nx (P := PP) (ρ1 := [some (.dat (.str (ruleS r))), some (.dat (.tup (ps.map plD))), some (.dat (.int (n : Nat))), none, none, some (.dat (.int (H : Nat))), none, none, none, none, none, none, none]) (π1 := π) (by simp [hpm, c1, c2, c3]) ?_
  have z1 := tk_zero (N := H + 80) (by omega) π
  have z1 : mulF (.lst [.int 0]) (.int ((H : Int) + 80)) π = .ok (tkL (H + 80) fun _ => false) π := z1
  refine step_nx (P := PP) (ρ1 := [some (.dat (.str (ruleS r))), some (.dat (.tup (ps.map plD))), some (.dat (.int (n : Nat))), none, none, some (.dat (.int (H : Nat))), some (.lst (tkL (H + 80) fun _ => false)), none, none, none, none, none, none]) (π1 := π) (by simp [z1]) ?_
  obtain ⟨y, ey⟩ := plots_go (Y := Option SV × Option SV × Option SV) (g := gT 2 (gCons_ (gN 3) (gCons_ (gN 4) gNil_))) (π := π) (all := ps) (E := fun pre y => [some (.dat (.str (ruleS r))), some (.dat (.tup (ps.map plD))), some (.dat (.int (n : Nat))), y.1, y.2.1, some (.dat (.int (H : Nat))), some (.lst (tkL (H + 80) (tkB pre))), y.2.2, none, none, none, none, none])
    (s := sFor (eCall rng2M (aCons (eVar 3) (aCons (eBin addM (eVar 3) (eVar 4)) aNil))) (gN 7) (sSetIx 6 (eC (.int 1)) (eVar 7)))
    (fun pre p suf y hk => by
      obtain ⟨a1, a2, a3⟩ := hmem p (by rw [hk]; simp)
      have hr : (DL.inR p.1 && DL.inR (p.1 + p.2)) = true := by
        unfold DL.inR
        rw [decide_eq_true (by omega), decide_eq_true (by omega), decide_eq_true (by omega), decide_eq_true (by omega)]
        rfl
      obtain ⟨x', ex⟩ := fill_tk (g := gN 7) (s := sSetIx 6 (eC (.int 1)) (eVar 7)) (N := H + 80) (π := π) (E := fun cs x => [some (.dat (.str (ruleS r))), some (.dat (.tup (ps.map plD))), some (.dat (.int (n : Nat))), some (.dat (.int p.1)), some (.dat (.int p.2)), some (.dat (.int (H : Nat))), some (.lst cs), x, none, none, none, none, none]) (fun i cs x => rfl) (fun f i i0 i1 => by
        have q := tk_set f i0 i1
        simp [q]) p.2.toNat p.1 (tkB pre) y.2.2 a1 (by omega)
      refine ⟨_, (some (.dat (.int p.1)), some (.dat (.int p.2)), x'), rfl, ?_⟩
      have hd : (p.1 + p.2 - p.1).toNat = p.2.toNat := by omega
      refine for_items (ds := (ups p.1 p.2.toNat).map D.int) (π1 := π) (by rw [← rng_ups]; simp [o_rng2 hr, hd]) ?_
      refine ex.trans ?_
      have ef : (fun j => (decide (p.1 ≤ j) && decide (j < p.1 + (p.2.toNat : Nat))) || tkB pre j) = tkB (pre ++ [p]) := by
        funext j
        rw [tkB_snoc, show ((p.2.toNat : Nat) : Int) = p.2 by omega]
      simp only [ef]) ps [] (none, none, none) rfl
  have ey : forGo _ _ (ps.map plD) [some (.dat (.str (ruleS r))), some (.dat (.tup (ps.map plD))), some (.dat (.int (n : Nat))), none, none, some (.dat (.int (H : Nat))), some (.lst (tkL (H + 80) fun _ => false)), none, none, none, none, none, none] π = _ := ey
  refine step_nx (P := PP) (ρ1 := [some (.dat (.str (ruleS r))), some (.dat (.tup (ps.map plD))), some (.dat (.int (n : Nat))), y.1, y.2.1, some (.dat (.int (H : Nat))), some (.lst (tkL (H + 80) (tkB ps))), y.2.2, none, none, none, none, none]) (π1 := π) (for_items (ds := ps.map plD) (π1 := π) (by simp) ey) ?_
  have er : rng1M [.int ((H : Int) + 40)] π = .ok ((ups 0 (H + 40)).map D.int) π := by
    rw [← rng_ups]
    exact rng1_ok (n := H + 40) (by omega) π
  have c4 : compGo (gN 7) (eT (eBin eqM (eCall sumM (aCons (eSl (eVarB 6) (oSome (eVar 7)) (oSome (eBin addM (eVar 7) (eVar 2)))) aNil)) (eC (.int 0)))) (eVar 7) [some (.dat (.str (ruleS r))), some (.dat (.tup (ps.map plD))), some (.dat (.int (n : Nat))), y.1, y.2.1, some (.dat (.int (H : Nat))), some (.lst (tkL (H + 80) (tkB ps))), none, none, none, none, none, none] ((ups 0 (H + 40)).map D.int) π = .ok (((ups 0 (H + 40)).filter fun k => frB ps (n : Nat) k).map D.int) π := by
    refine comp_in _ _ _ _ _ _ _ fun i hi => ?_
    have hi := ups_mem _ _ _ hi
    obtain ⟨k, rfl⟩ : ∃ k : Nat, i = k := ⟨i.toNat, by omega⟩
    have s1 := tk_cut (N := H + 80) (tkB ps) (k := k) (n := n) (by omega)
    obtain ⟨sv, s2, s3⟩ := sum_go (tkB ps) n (k : Int) π
    rw [← fr_tk (fun p hp => (hmem p hp).2.1) hn1] at s3
    rw [← s3]
    exact ⟨_, rfl, by simp [s1, s2], rfl⟩
  have hul : ((ups 0 (H + 40)).map D.int).length ≤ most := by rw [List.length_map, ups_len]; omega
  have hul2 : ((ups 0 (H + 40)).filter fun k => frB ps (n : Nat) k).length ≤ most := by
    refine Nat.le_trans (List.length_filter_le _ _) ?_
    rw [ups_len]
    omega
  generalize (ups 0 (H + 40)).map D.int = rg at er c4 hul
  generalize hft : (ups 0 (H + 40)).filter (fun k => frB ps (n : Nat) k) = ft at c4 hul2
  refine step_nx (P := PP) (ρ1 := [some (.dat (.str (ruleS r))), some (.dat (.tup (ps.map plD))), some (.dat (.int (n : Nat))), y.1, y.2.1, some (.dat (.int (H : Nat))), some (.lst (tkL (H + 80) (tkB ps))), y.2.2, some (.dat (.lst (ft.map D.int))), none, none, none, none]) (π1 := π) (by simp [er, hul, c4]) ?_
  by_cases hev : r = .even
  · subst hev
    obtain ⟨st, hst⟩ := stride_law (n := (n : Nat)) (by omega)
    have c5 := comp_ints (gN 9) (eT (eBin geM (eVar 9) (eVar 2))) (eVar 9) [some (.dat (.str "even")), some (.dat (.tup (ps.map plD))), some (.dat (.int (n : Nat))), y.1, y.2.1, some (.dat (.int (H : Nat))), some (.lst (tkL (H + 80) (tkB ps))), y.2.2, some (.dat (.lst (ft.map D.int))), none, none, none, none] π (fun z => decide ((n : Int) ≤ z)) [1, 2, 4, 8, 16, 32] fun i => ⟨_, rfl, by simp, rfl⟩
    rw [hst] at c5
    simp only [List.map_cons, List.map_nil] at c5
    have hsp := (stride_pos n).1
    have hsp0 : 0 < strideP n := by omega
    have c6 := comp_ints (gN 7) (eT (eBin eqM (eBin modM (eVar 7) (eVar 10)) (eC (.int 0)))) (eVar 7) [some (.dat (.str "even")), some (.dat (.tup (ps.map plD))), some (.dat (.int (n : Nat))), y.1, y.2.1, some (.dat (.int (H : Nat))), some (.lst (tkL (H + 80) (tkB ps))), none, some (.dat (.lst (ft.map D.int))), none, some (.dat (.int (strideP n))), none, none] π (fun k => decide (k % strideP n = 0)) ft fun i => ⟨_, rfl, by simp [o_mod hsp0], rfl⟩
    obtain ⟨t, ht⟩ := even_ex h (n : Nat)
    have hHn : (endP 0 ps).toNat = H := by omega
    rw [hHn] at ht
    have hf2 : ft.filter (fun k => decide (k % strideP n = 0)) = evenP ps n :: t := by
      rw [← hft, List.filter_filter, ← ht]
      refine List.filter_congr fun k _ => ?_
      unfold evB
      exact Bool.and_comm _ _
    rw [hf2] at c6
    have hPL : evenP ps n = PL := hPL
    rw [hPL] at c6
    have h6m : (6 : Nat) ≤ most := by decide
    have b0 : ∀ (x : D) (t : List D), atI (x :: t) 0 = some x := fun x t => by rw [atI_get (by decide) (by simp)]; rfl
    have b1 := b0 (.int (strideP n)) (st.map D.int)
    have b2 := b0 (.int PL) (t.map D.int)
    simp only [List.map_cons] at c6
    generalize (D.int (strideP n) :: st.map D.int) = l1 at *
    generalize (D.int PL :: t.map D.int) = l2 at *
    generalize hfm : ft.map D.int = fm at *
    have hfl : fm.length ≤ most := by rw [← hfm, List.length_map]; exact hul2
    show outB _ = _
    simp [ruleS, e_even_even, h6m, c5, b1, hfl, c6, b2]
  have hr4 : r = .first ∨ r = .last ∨ r = .best ∨ r = .worst := by
    cases r with
    | first => exact .inl rfl
    | last => exact .inr (.inl rfl)
    | best => exact .inr (.inr (.inl rfl))
    | worst => exact .inr (.inr (.inr rfl))
    | even => exact absurd rfl hev
  have hpl : PL = if fitsG n (gapL 0 ps) = [] then (H : Int) else gapP r n (fitsG n (gapL 0 ps)) := by
    rw [← hPL, ← hH]
    rcases hr4 with rfl | rfl | rfl | rfl <;> rfl
  have eve : ∀ π, (ofO ((eqB (.str (ruleS r)) (.str "even")).map D.bl) : EM D) π = .ok (.bl false) π := fun π => by
    rcases hr4 with rfl | rfl | rfl | rfl
    · show (ofO ((eqB (.str "first") (.str "even")).map D.bl) : EM D) π = _; rw [e_first_even]; rfl
    · show (ofO ((eqB (.str "last") (.str "even")).map D.bl) : EM D) π = _; rw [e_last_even]; rfl
    · show (ofO ((eqB (.str "best") (.str "even")).map D.bl) : EM D) π = _; rw [e_best_even]; rfl
    · show (ofO ((eqB (.str "worst") (.str "even")).map D.bl) : EM D) π = _; rw [e_worst_even]; rfl
  refine step_nx (P := PP) (ρ1 := [some (.dat (.str (ruleS r))), some (.dat (.tup (ps.map plD))), some (.dat (.int (n : Nat))), y.1, y.2.1, some (.dat (.int (H : Nat))), some (.lst (tkL (H + 80) (tkB ps))), y.2.2, some (.dat (.lst (ft.map D.int))), none, none, none, none]) (π1 := π) (by simp [eve]) ?_
  have hlow : ft.filter (fun k => decide (k + n ≤ (H : Int))) = lowL n (gapL 0 ps) := by
    have ls := low_split (n := n) (by omega) ps 0 h
    rw [hH, show ((H : Int) - 0).toNat = H by omega] at ls
    rw [← ls, ← hft, ups_app, List.filter_append, List.filter_append, List.filter_filter]
    have z : ((ups (0 + (H : Int)) 40).filter fun k => frB ps (n : Nat) k).filter (fun k => decide (k + n ≤ (H : Int))) = [] := by
      refine List.filter_eq_nil_iff.mpr fun k hk => ?_
      have := ups_mem _ _ _ (List.mem_filter.mp hk).1
      rw [decide_eq_true_eq]
      omega
    rw [z, List.append_nil]
    refine List.filter_congr fun k _ => ?_
    exact Bool.and_comm _ _
  have c7 := comp_ints (gN 7) (eT (eBin leM (eBin addM (eVar 7) (eVar 2)) (eVar 5))) (eVar 7) [some (.dat (.str (ruleS r))), some (.dat (.tup (ps.map plD))), some (.dat (.int (n : Nat))), y.1, y.2.1, some (.dat (.int (H : Nat))), some (.lst (tkL (H + 80) (tkB ps))), none, some (.dat (.lst (ft.map D.int))), none, none, none, none] π (fun k => decide (k + n ≤ (H : Int))) ft fun i => ⟨_, rfl, by simp, rfl⟩
  rw [hlow] at c7
  have hfl : (ft.map D.int).length ≤ most := by rw [List.length_map]; exact hul2
  have hlw : (lowL n (gapL 0 ps)).length ≤ most := by
    rw [← hlow]
    exact Nat.le_trans (List.length_filter_le _ _) hul2
  generalize hfm : ft.map D.int = fm at *
  refine step_nx (P := PP) (ρ1 := [some (.dat (.str (ruleS r))), some (.dat (.tup (ps.map plD))), some (.dat (.int (n : Nat))), y.1, y.2.1, some (.dat (.int (H : Nat))), some (.lst (tkL (H + 80) (tkB ps))), y.2.2, some (.dat (.lst fm)), none, none, some (.dat (.lst ((lowL n (gapL 0 ps)).map D.int))), none]) (π1 := π) (by simp [hfl, c7]) ?_
  have hem : eqB (.lst ((lowL n (gapL 0 ps)).map D.int)) (.lst []) = some (decide (lowL n (gapL 0 ps) = [])) := eqB_ints _ []
  by_cases hf : fitsG n (gapL 0 ps) = []
  · rw [if_pos hf] at hpl
    rw [(low_nil (by omega) _).mpr hf] at hem ⊢
    have hem : eqB (.lst []) (.lst []) = some true := hem
    show outB _ = _
    simp [hem, hpl]
  rw [if_neg hf] at hpl
  rw [decide_eq_false (fun z => hf ((low_nil (by omega) _).mp z))] at hem
  refine step_nx (P := PP) (ρ1 := [some (.dat (.str (ruleS r))), some (.dat (.tup (ps.map plD))), some (.dat (.int (n : Nat))), y.1, y.2.1, some (.dat (.int (H : Nat))), some (.lst (tkL (H + 80) (tkB ps))), y.2.2, some (.dat (.lst fm)), none, none, some (.dat (.lst ((lowL n (gapL 0 ps)).map D.int))), none]) (π1 := π) (by simp [hem]) ?_
  obtain ⟨q0, fr, hq0⟩ : ∃ q t, fitsG n (gapL 0 ps) = q :: t := by
    cases hx : fitsG n (gapL 0 ps) with
    | nil => exact absurd hx hf
    | cons q t => exact ⟨q, t, rfl⟩
  obtain ⟨lt, hlt⟩ := low_head (n := n) (by omega) hq0
  obtain ⟨ys, ql, hys⟩ := snoc_of (fitsG n (gapL 0 ps)) hf
  obtain ⟨lt2, hlt2⟩ := low_last (n := n) (by omega) hys
  have a0 : atI ((lowL n (gapL 0 ps)).map D.int) 0 = some (.int q0.1) := by rw [hlt, atI_get (by decide) (by simp)]; rfl
  have al : atI ((lowL n (gapL 0 ps)).map D.int) (-1) = some (.int (ql.1 + ql.2 - n)) := by rw [hlt2, List.map_append]; exact atI_last _ _
  have gf : gapP .first n (fitsG n (gapL 0 ps)) = q0.1 := by rw [hq0]; rfl
  have gl : gapP .last n (fitsG n (gapL 0 ps)) = ql.1 + ql.2 - n := by
    show ((fitsG n (gapL 0 ps)).getLastD (0, 0)).1 + ((fitsG n (gapL 0 ps)).getLastD (0, 0)).2 - n = _
    rw [hys]
    simp
  rcases hr4 with rfl | rfl | hr2
  · rw [gf] at hpl
    show outB _ = _
    simp [ruleS, e_first_first, a0, hpl]
  · rw [gl] at hpl
    show outB _ = _
    simp [ruleS, e_last_first, e_last_last, al, hpl]
  have evf : ∀ π, (ofO ((eqB (.str (ruleS r)) (.str "first")).map D.bl) : EM D) π = .ok (.bl false) π := fun π => by
    rcases hr2 with rfl | rfl
    · show (ofO ((eqB (.str "best") (.str "first")).map D.bl) : EM D) π = _; rw [e_best_first]; rfl
    · show (ofO ((eqB (.str "worst") (.str "first")).map D.bl) : EM D) π = _; rw [e_worst_first]; rfl
  have evl : ∀ π, (ofO ((eqB (.str (ruleS r)) (.str "last")).map D.bl) : EM D) π = .ok (.bl false) π := fun π => by
    rcases hr2 with rfl | rfl
    · show (ofO ((eqB (.str "best") (.str "last")).map D.bl) : EM D) π = _; rw [e_best_last]; rfl
    · show (ofO ((eqB (.str "worst") (.str "last")).map D.bl) : EM D) π = _; rw [e_worst_last]; rfl
  refine step_nx (P := PP) (ρ1 := [some (.dat (.str (ruleS r))), some (.dat (.tup (ps.map plD))), some (.dat (.int (n : Nat))), y.1, y.2.1, some (.dat (.int (H : Nat))), some (.lst (tkL (H + 80) (tkB ps))), y.2.2, some (.dat (.lst fm)), none, none, some (.dat (.lst ((lowL n (gapL 0 ps)).map D.int))), none]) (π1 := π) (by simp [evf]) ?_
  refine step_nx (P := PP) (ρ1 := [some (.dat (.str (ruleS r))), some (.dat (.tup (ps.map plD))), some (.dat (.int (n : Nat))), y.1, y.2.1, some (.dat (.int (H : Nat))), some (.lst (tkL (H + 80) (tkB ps))), y.2.2, some (.dat (.lst fm)), none, none, some (.dat (.lst ((lowL n (gapL 0 ps)).map D.int))), none]) (π1 := π) (by simp [evl]) ?_
  refine step_nx (P := PP) (ρ1 := [some (.dat (.str (ruleS r))), some (.dat (.tup (ps.map plD))), some (.dat (.int (n : Nat))), y.1, y.2.1, some (.dat (.int (H : Nat))), some (.lst (tkL (H + 80) (tkB ps))), y.2.2, some (.dat (.lst fm)), none, none, some (.dat (.lst ((lowL n (gapL 0 ps)).map D.int))), some (.lst [])]) (π1 := π) (by simp) ?_
  have gfa : ∀ q ∈ gapL 0 ps, 0 ≤ q.1 ∧ 0 < q.2 ∧ q.1 + q.2 ≤ H ∧ (∀ k, q.1 ≤ k → k < q.1 + q.2 → tkB ps k = false) ∧ tkB ps (q.1 + q.2) = true ∧ (q.1 = 0 ∨ tkB ps (q.1 - 1) = true) := fun q hq => by
    obtain ⟨a1, a2, a3⟩ := gap_pos ps 0 (layP_top ps 0 (endP 0 ps) h (Int.le_refl _)) q hq
    obtain ⟨b1, b2, b3⟩ := gap_facts ps [] 0 h (fun p hp => absurd hp List.not_mem_nil) (.inl rfl) q hq
    exact ⟨a1, a2, by omega, b1, b2, b3⟩
  have hst := low_starts (ps := ps) (n := n) (by omega) (gapL 0 ps) fun q hq => ⟨(gfa q hq).1, (gfa q hq).2.1, (gfa q hq).2.2.2.1, (gfa q hq).2.2.2.2.2⟩
  obtain ⟨wd, hwd⟩ : ∃ wd : Int → Int, ∀ q ∈ fitsG n (gapL 0 ps), wd q.1 = q.2 := by
    have inj : ∀ q ∈ gapL 0 ps, ∀ z ∈ gapL 0 ps, q.1 = z.1 → q.2 = z.2 := fun q hq z hz e => by
      obtain ⟨a1, a2, a3, a4, a5, a6⟩ := gfa q hq
      obtain ⟨b1, b2, b3, b4, b5, b6⟩ := gfa z hz
      rcases Int.lt_trichotomy q.2 z.2 with c | c | c
      · have := b4 (q.1 + q.2) (by omega) (by omega)
        rw [a5] at this
        cases this
      · exact c
      · have := a4 (z.1 + z.2) (by omega) (by omega)
        rw [b5] at this
        cases this
    refine ⟨fun k => match (gapL 0 ps).find? fun q => decide (q.1 = k) with
      | some q => q.2
      | none => 0, fun q hq => ?_⟩
    have hq := (List.mem_filter.mp hq).1
    cases hfd : (gapL 0 ps).find? fun z => decide (z.1 = q.1) with
    | none =>
      have := List.find?_eq_none.mp hfd q hq
      simp at this
    | some z =>
      have z1 := List.mem_of_find?_eq_some hfd
      have z2 := List.find?_some hfd
      simp only [hfd]
      exact inj z z1 q hq (by simpa using z2)
  have idx : ∀ k ∈ lowL n (gapL 0 ps), wB ps k = true → indexL ((ups k (H + 80 - k.toNat)).map fun j => .int (if tkB ps j then 1 else 0)) (.int 1) π = .ok (.int (wd k)) π := fun k hk hw => by
    have hk2 : k ∈ (lowL n (gapL 0 ps)).filter (wB ps) := List.mem_filter.mpr ⟨hk, hw⟩
    rw [hst] at hk2
    obtain ⟨q, hq, rfl⟩ := List.mem_map.mp hk2
    obtain ⟨a1, a2, a3, a4, a5, a6⟩ := gfa q (List.mem_filter.mp hq).1
    rw [hwd q hq]
    have := index_tk (f := tkB ps) (l := q.2.toNat) (n := H + 80 - q.1.toNat) (a := q.1) (by omega) (fun j j1 j2 => a4 j j1 (by omega)) (by rw [show q.1 + (q.2.toNat : Nat) = q.1 + q.2 by omega]; exact a5) π
    rw [this, show ((q.2.toNat : Nat) : Int) = q.2 by omega]
  have hkb : ∀ k ∈ lowL n (gapL 0 ps), 0 ≤ k ∧ k < (H : Int) + 80 := fun k hk => by
    obtain ⟨q, hq, hk⟩ := List.mem_flatMap.mp hk
    obtain ⟨a1, a2, a3, a4, a5, a6⟩ := gfa q (List.mem_filter.mp hq).1
    have := ups_mem _ _ _ hk
    omega
  obtain ⟨y7, ew⟩ := ints_go (Y := Option SV) (g := gN 7) (π := π) (all := lowL n (gapL 0 ps)) (E := fun pre yy => [some (.dat (.str (ruleS r))), some (.dat (.tup (ps.map plD))), some (.dat (.int (n : Nat))), y.1, y.2.1, some (.dat (.int (H : Nat))), some (.lst (tkL (H + 80) (tkB ps))), yy, some (.dat (.lst fm)), none, none, some (.dat (.lst ((lowL n (gapL 0 ps)).map D.int))), some (.lst (((pre.filter (wB ps)).map fun k => (wd k, k)).map plD))])
    (s := sIf (tOr_ (eT (eBin eqM (eVar 7) (eC (.int 0)))) (eT (eBin eqM (eBin ixM (eVarB 6) (eBin subM (eVar 7) (eC (.int 1)))) (eC (.int 1))))) (sMut 12 (eTup (aCons (eIdx (eSl (eVarB 6) (oSome (eVar 7)) oNone) (eC (.int 1))) (aCons (eVar 7) aNil))) apF) sNop)
    (fun pre k suf y hk => by
      have hkm : k ∈ lowL n (gapL 0 ps) := by rw [hk]; simp
      obtain ⟨k0, k1⟩ := hkb k hkm
      have hi := idx k hkm
      obtain ⟨kn, rfl⟩ : ∃ kn : Nat, k = kn := ⟨k.toNat, by omega⟩
      have cf := tk_from (N := H + 80) (tkB ps) (k := kn) (by omega)
      rw [Int.toNat_natCast] at hi
      have hlm : (((pre.filter (wB ps)).map fun k => (wd k, k)).map plD).length < most := by
        rw [List.length_map, List.length_map]
        have := List.length_filter_le (wB ps) pre
        have h2 := congrArg List.length hk
        simp at h2
        omega
      refine ⟨_, some (.dat (.int (kn : Nat))), rfl, ?_⟩
      rw [List.filter_append, List.map_append, List.map_append]
      generalize ((pre.filter (wB ps)).map fun k => (wd k, k)).map plD = wl at *
      by_cases c0 : kn = 0
      · subst c0
        have hw : wB ps ((0 : Nat) : Int) = true := rfl
        have hi := hi hw
        rw [← cf] at hi
        have hi : indexL (cut (tkL (H + 80) (tkB ps)) (some 0) none) (.int 1) π = .ok (.int (wd 0)) π := hi
        have e1 : ((([((0 : Nat) : Int)].filter (wB ps)).map fun k => (wd k, k)).map plD) = [.tup [.int (wd 0), .int 0]] := rfl
        rw [e1]
        simp [hi, apF, hlm]
      · have c0' : ¬ ((kn : Nat) : Int) = 0 := by omega
        have ta := tk_at (N := H + 80) (tkB ps) (k := (kn : Int) - 1) (by omega) (by omega)
        have hwB : wB ps ((kn : Nat) : Int) = tkB ps ((kn : Int) - 1) := by unfold wB; rw [decide_eq_false c0', Bool.false_or]
        cases hw : tkB ps ((kn : Int) - 1) with
        | true =>
          rw [hw] at ta hwB
          have hi := hi hwB
          rw [← cf] at hi
          have e1 : ((([((kn : Nat) : Int)].filter (wB ps)).map fun k => (wd k, k)).map plD) = [.tup [.int (wd kn), .int kn]] := by
            rw [List.filter_cons, hwB]
            rfl
          rw [e1]
          simp at ta
          simp [c0, ta, hi, apF, hlm]
        | false =>
          rw [hw] at ta hwB
          have e1 : ((([((kn : Nat) : Int)].filter (wB ps)).map fun k => (wd k, k)).map plD) = [] := by
            rw [List.filter_cons, hwB]
            rfl
          rw [e1, List.append_nil]
          simp at ta
          simp [c0, ta]) (lowL n (gapL 0 ps)) [] y.2.2 rfl
  have ew : forGo _ _ ((lowL n (gapL 0 ps)).map D.int) [some (.dat (.str (ruleS r))), some (.dat (.tup (ps.map plD))), some (.dat (.int (n : Nat))), y.1, y.2.1, some (.dat (.int (H : Nat))), some (.lst (tkL (H + 80) (tkB ps))), y.2.2, some (.dat (.lst fm)), none, none, some (.dat (.lst ((lowL n (gapL 0 ps)).map D.int))), some (.lst [])] π = _ := ew
  have hwl : ((lowL n (gapL 0 ps)).filter (wB ps)).map (fun k => (wd k, k)) = wideL (fitsG n (gapL 0 ps)) := by
    rw [hst, List.map_map]
    unfold wideL
    refine List.map_congr_left fun q hq => ?_
    show (wd q.1, q.1) = (q.2, q.1)
    rw [hwd q hq]
  rw [hwl] at ew
  refine step_nx (P := PP) (ρ1 := [some (.dat (.str (ruleS r))), some (.dat (.tup (ps.map plD))), some (.dat (.int (n : Nat))), y.1, y.2.1, some (.dat (.int (H : Nat))), some (.lst (tkL (H + 80) (tkB ps))), y7, some (.dat (.lst fm)), none, none, some (.dat (.lst ((lowL n (gapL 0 ps)).map D.int))), some (.lst ((wideL (fitsG n (gapL 0 ps))).map plD))]) (π1 := π) (for_items (ds := (lowL n (gapL 0 ps)).map D.int) (π1 := π) (by simp) ew) ?_
  have hfl2 : (fitsG n (gapL 0 ps)).length ≤ 100 := by
    refine Nat.le_trans (List.length_filter_le _ _) ?_
    have := gap_len ps 0
    omega
  have asc := asc_filter (P := fun q => decide ((n : Int) ≤ q.2)) (gap_asc ps 0 h).1
  have asc : ascB (fitsG n (gapL 0 ps)) := asc
  have hwne : wideL (fitsG n (gapL 0 ps)) ≠ [] := fun z => hf (List.map_eq_nil_iff.mp z)
  have hwlen : (wideL (fitsG n (gapL 0 ps))).length ≤ 100 := by unfold wideL; rw [List.length_map]; exact hfl2
  have hmne : (fitsG n (gapL 0 ps)).map (fun q => q.2) ≠ [] := fun z => hf (List.map_eq_nil_iff.mp z)
  rcases hr2 with rfl | rfl
  · have hpl : PL = pickG (minL ((fitsG n (gapL 0 ps)).map (·.2))) (fitsG n (gapL 0 ps)) := hpl
    obtain ⟨qm, hqm, hqe⟩ := List.mem_map.mp (minL_mem hmne)
    obtain ⟨i1, i2⟩ := pick_least asc hqm hqe
    rw [← hpl] at i1 i2
    have hmw : (minL ((fitsG n (gapL 0 ps)).map (·.2)), PL) ∈ wideL (fitsG n (gapL 0 ps)) := List.mem_map.mpr ⟨_, i2, rfl⟩
    obtain ⟨st, hs⟩ := sort_head hmw fun z hz => by
      obtain ⟨q, hq, rfl⟩ := List.mem_map.mp hz
      unfold leP
      rw [decide_eq_true_eq]
      have g1 := minL_le (l := (fitsG n (gapL 0 ps)).map (·.2)) (List.mem_map.mpr ⟨q, hq, rfl⟩)
      show minL ((fitsG n (gapL 0 ps)).map (·.2)) < q.2 ∨ (minL ((fitsG n (gapL 0 ps)).map (·.2)) = q.2 ∧ PL ≤ q.1)
      by_cases c : minL ((fitsG n (gapL 0 ps)).map (·.2)) = q.2
      · refine .inr ⟨c, ?_⟩
        have := (pick_least asc hq c.symm).1
        rw [← hpl] at this
        exact this
      · omega
    have sm := (sortM_ps hwne (by omega) π).1
    rw [hs, plT_pl] at sm
    have b0 : atI ((((minL ((fitsG n (gapL 0 ps)).map (·.2)), PL) :: st)).map plT) 0 = some (.tup [.int (minL ((fitsG n (gapL 0 ps)).map (·.2))), .int PL]) := by rw [atI_get (by decide) (by simp)]; rfl
    generalize minL ((fitsG n (gapL 0 ps)).map (·.2)) = mn at *
    have b1 : atI [D.int mn, .int PL] 1 = some (.int PL) := rfl
    generalize ((mn, PL) :: st).map plT = sl at *
    generalize (wideL (fitsG n (gapL 0 ps))).map plD = wl at *
    show outB _ = _
    simp [ruleS, e_best_best, sm, b0, b1]
  · have hpl : PL = pickG (maxL ((fitsG n (gapL 0 ps)).map (·.2))) (fitsG n (gapL 0 ps)) := hpl
    obtain ⟨w0, wr, hw0⟩ : ∃ a t, wideL (fitsG n (gapL 0 ps)) = a :: t := by
      cases hx : wideL (fitsG n (gapL 0 ps)) with
      | nil => exact absurd hx hwne
      | cons a t => exact ⟨a, t, rfl⟩
    have hmx : (maxP w0 wr).1 = maxL ((fitsG n (gapL 0 ps)).map (·.2)) := by
      rw [maxP_fst, ← hw0]
      unfold wideL
      rw [List.map_map]
      rfl
    have mx := maxXM_ps w0 wr π
    rw [← hw0, plT_pl] at mx
    generalize maxL ((fitsG n (gapL 0 ps)).map (·.2)) = gm at *
    have b0 : atI [D.int (maxP w0 wr).1, .int (maxP w0 wr).2] 0 = some (.int (maxP w0 wr).1) := rfl
    rw [hmx] at b0
    have c8 := comp_wide (g := gT 2 (gCons_ (gN 4) (gCons_ (gN 7) gNil_))) (t := eT (eBin eqM (eVar 4) (eBin ixM (eCall maxXM (aCons (eVarB 12) aNil)) (eC (.int 0))))) (f := eVar 7) (ρ := [some (.dat (.str "worst")), some (.dat (.tup (ps.map plD))), some (.dat (.int (n : Nat))), y.1, none, some (.dat (.int (H : Nat))), some (.lst (tkL (H + 80) (tkB ps))), none, some (.dat (.lst fm)), none, none, some (.dat (.lst ((lowL n (gapL 0 ps)).map D.int))), some (.lst ((wideL (fitsG n (gapL 0 ps))).map plD))]) (π := π) gm (wideL (fitsG n (gapL 0 ps))) fun p => ⟨_, rfl, by simp [mx, plT, hmx, b0], rfl⟩
    rw [find_first] at c8
    obtain ⟨q, hq, hqe⟩ := List.mem_map.mp (show gm ∈ (fitsG n (gapL 0 ps)).map (fun q => q.2) from by
      have : gm ∈ (w0 :: wr).map (·.1) := by rw [← hmx, maxP_fst]; exact maxL_mem (by simp)
      rw [← hw0] at this
      unfold wideL at this
      rw [List.map_map] at this
      exact this)
    obtain ⟨k, t, hkt⟩ : ∃ k t, ((fitsG n (gapL 0 ps)).filter fun q => decide (q.2 = gm)).map (·.1) = k :: t := by
      have : q.1 ∈ ((fitsG n (gapL 0 ps)).filter fun q => decide (q.2 = gm)).map (·.1) := List.mem_map.mpr ⟨q, List.mem_filter.mpr ⟨hq, by simpa using hqe⟩, rfl⟩
      cases hx : ((fitsG n (gapL 0 ps)).filter fun q => decide (q.2 = gm)).map (·.1) with
      | nil => rw [hx] at this; cases this
      | cons a t => exact ⟨a, t, rfl⟩
    have hkp := pick_filter gm _ hkt
    rw [hkt] at c8
    rw [hkp] at hpl
    have b2 : atI ((k :: t).map D.int) 0 = some (.int k) := by rw [atI_get (by decide) (by simp)]; rfl
    have hwm : ((wideL (fitsG n (gapL 0 ps))).map plD).length ≤ most := by rw [List.length_map]; omega
    generalize (k :: t).map D.int = sl at *
    generalize (wideL (fitsG n (gapL 0 ps))).map plD = wl at *
    show outB _ = _
    simp [ruleS, e_worst_best, hwm, c8, b2, hpl]
end G_k12

namespace G_k12
open PySem PySem.Spec PyProof.Rows L2 LamX DL
/-! layouts that grow -/
theorem layP_mono {hi hi' : Int} (h : hi ≤ hi') : ∀ (ps : List (Int × Int)) (lo : Int), layP hi lo ps → layP hi' lo ps
  | [], _, _ => trivial
  | p :: r, lo, q => by
    obtain ⟨h1, h2, h3, h4⟩ := q
    exact ⟨h1, h2, by omega, layP_mono h r _ h4⟩
theorem layP_lo {hi : Int} {lo lo' : Int} (h : lo' ≤ lo) : ∀ (ps : List (Int × Int)), layP hi lo ps → layP hi lo' ps
  | [], _ => trivial
  | p :: r, q => by
    obtain ⟨h1, h2, h3, h4⟩ := q
    exact ⟨by omega, h2, h3, h4⟩
theorem layP_filter {hi : Int} (P : Int × Int → Bool) : ∀ (ps : List (Int × Int)) (lo : Int), layP hi lo ps → layP hi lo (ps.filter P)
  | [], _, _ => trivial
  | p :: r, lo, q => by
    obtain ⟨h1, h2, h3, h4⟩ := q
    have ih := layP_filter P r _ h4
    rw [List.filter_cons]
    split
    · exact ⟨h1, h2, h3, ih⟩
    · exact layP_lo (by omega) _ ih
def apart (p q : Int × Int) : Prop := p.1 + p.2 ≤ q.1 ∨ q.1 + q.2 ≤ p.1
theorem layP_apart {hi : Int} : ∀ (ps : List (Int × Int)) (lo : Int), layP hi lo ps → ps.Pairwise apart
  | [], _, _ => .nil
  | p :: r, lo, q => by
    obtain ⟨h1, h2, h3, h4⟩ := q
    exact .cons (fun z hz => .inl (layP_mem r _ h4 z hz).1) (layP_apart r _ h4)
theorem layP_of {hi : Int} : ∀ (ps : List (Int × Int)) (lo : Int), ps.Pairwise (fun p q => p.1 + p.2 ≤ q.1) → (∀ p ∈ ps, lo ≤ p.1 ∧ 0 < p.2 ∧ p.1 + p.2 ≤ hi) → layP hi lo ps
  | [], _, _, _ => trivial
  | p :: r, lo, h, hm => by
    obtain ⟨h1, h2⟩ := List.pairwise_cons.mp h
    obtain ⟨a1, a2, a3⟩ := hm p List.mem_cons_self
    exact ⟨a1, a2, a3, layP_of r _ h2 fun z hz => ⟨h1 z hz, (hm z (List.mem_cons_of_mem _ hz)).2.1, (hm z (List.mem_cons_of_mem _ hz)).2.2⟩⟩
theorem sortP_perm (xs : List (Int × Int)) : (sortP xs).Perm xs := List.mergeSort_perm xs leP
theorem sortP_sorted (xs : List (Int × Int)) : (sortP xs).Pairwise fun a b => leP a b = true := by
  have tot : ∀ a b : Int × Int, (leP a b || leP b a) = true := fun a b => by
    unfold leP
    rw [Bool.or_eq_true, decide_eq_true_eq, decide_eq_true_eq]
    omega
  have trans : ∀ a b c : Int × Int, leP a b = true → leP b c = true → leP a c = true := fun a b c h1 h2 => by
    unfold leP at *
    rw [decide_eq_true_eq] at *
    omega
  exact List.pairwise_mergeSort trans tot xs
theorem layP_sort {hi : Int} {ps : List (Int × Int)} (h : layP hi 0 ps) {k n : Int} (k0 : 0 ≤ k) (n0 : 0 < n) (he : k + n ≤ hi) (hf : frB ps n k = true) : layP hi 0 (sortP (ps ++ [(k, n)])) := by
  have hm : ∀ p ∈ ps ++ [(k, n)], 0 ≤ p.1 ∧ 0 < p.2 ∧ p.1 + p.2 ≤ hi := fun p hp => by
    rcases List.mem_append.mp hp with hp | hp
    · exact layP_mem ps 0 h p hp
    · cases List.mem_singleton.mp hp
      exact ⟨k0, n0, he⟩
  have hap : (ps ++ [(k, n)]).Pairwise apart := by
    rw [List.pairwise_append]
    refine ⟨layP_apart ps 0 h, .cons (fun _ z => by cases z) .nil, fun p hp q hq => ?_⟩
    cases List.mem_singleton.mp hq
    have := List.all_eq_true.mp hf p hp
    simp only [Bool.or_eq_true, decide_eq_true_eq] at this
    exact this
  have perm := sortP_perm (ps ++ [(k, n)])
  have hap2 : (sortP (ps ++ [(k, n)])).Pairwise apart := (perm.pairwise_iff fun {a b} h => h.symm).mpr hap
  have srt := sortP_sorted (ps ++ [(k, n)])
  refine layP_of _ 0 ?_ fun p hp => hm p (perm.mem_iff.mp hp)
  have both : (sortP (ps ++ [(k, n)])).Pairwise fun a b => apart a b ∧ leP a b = true := by
    rw [List.pairwise_and_iff]
    exact ⟨hap2, srt⟩
  refine (List.Pairwise.imp_of_mem (fun {a b} ha hb h => ?_) both)
  obtain ⟨h1, h2⟩ := h
  have a1 := hm a (perm.mem_iff.mp ha)
  have b1 := hm b (perm.mem_iff.mp hb)
  unfold leP at h2
  rw [decide_eq_true_eq] at h2
  rcases h1 with h1 | h1
  · exact h1
  · omega
theorem live_perm {xs ys : List (Int × Int)} (h : xs.Perm ys) : liveP xs = liveP ys := by
  induction h with
  | nil => rfl
  | cons x _ ih => show x.2 + _ = x.2 + _; rw [ih]
  | swap x y l => show y.2 + (x.2 + liveP l) = x.2 + (y.2 + liveP l); omega
  | trans _ _ i1 i2 => exact i1.trans i2
theorem live_app : ∀ (ps : List (Int × Int)) (p : Int × Int), liveP (ps ++ [p]) = liveP ps + p.2
  | [], p => by simp [liveP]
  | q :: r, p => by
    rw [List.cons_append, liveP, liveP, live_app r]
    omega
theorem live_filter (P : Int × Int → Bool) : ∀ (ps : List (Int × Int)), (∀ p ∈ ps, 0 < p.2) → 0 ≤ liveP (ps.filter P) ∧ liveP (ps.filter P) ≤ liveP ps
  | [], _ => ⟨Int.le_refl _, Int.le_refl _⟩
  | p :: r, h => by
    obtain ⟨i1, i2⟩ := live_filter P r fun z hz => h z (List.mem_cons_of_mem _ hz)
    have := h p List.mem_cons_self
    rw [List.filter_cons]
    split
    · exact ⟨by show 0 ≤ p.2 + _; omega, by show p.2 + _ ≤ p.2 + _; omega⟩
    · exact ⟨i1, by show _ ≤ p.2 + _; omega⟩
/-! where the rules put a plot -/
theorem low_free {hi : Int} {ps : List (Int × Int)} (h : layP hi 0 ps) {n : Int} (hn : 1 ≤ n) {k : Int} (hk : k ∈ lowL n (gapL 0 ps)) : frB ps n k = true ∧ 0 ≤ k ∧ k + n ≤ endP 0 ps := by
  have ls := low_split (n := n) hn ps 0 h
  rw [← ls] at hk
  obtain ⟨h1, h2⟩ := List.mem_filter.mp hk
  rw [Bool.and_eq_true, decide_eq_true_eq] at h2
  have := ups_mem _ _ _ h1
  exact ⟨h2.1, by omega, h2.2⟩
theorem pick_low {n goal : Int} {qs : List (Int × Int)} {q : Int × Int} (hn : 1 ≤ n) (hq : q ∈ fitsG n qs) (e : q.2 = goal) : pickG goal (fitsG n qs) ∈ lowL n qs := by
  unfold pickG
  cases hf : (fitsG n qs).find? fun q => decide (q.2 = goal) with
  | none =>
    have := List.find?_eq_none.mp hf q hq
    simp [e] at this
  | some z =>
    have hz := List.mem_of_find?_eq_some hf
    have hz2 := (List.mem_filter.mp hz).2
    have hz2 : n ≤ z.2 := by simpa using hz2
    show z.1 ∈ lowL n qs
    exact List.mem_flatMap.mpr ⟨z, hz, mem_ups _ _ _ (Int.le_refl _) (by omega)⟩
theorem gap_low (r : Rule) {n : Int} (hn : 1 ≤ n) {qs : List (Int × Int)} (hf : fitsG n qs ≠ []) : gapP r n (fitsG n qs) ∈ lowL n qs := by
  have hne : (fitsG n qs).map (fun q => q.2) ≠ [] := fun z => hf (List.map_eq_nil_iff.mp z)
  cases r with
  | first =>
    obtain ⟨q, t, e⟩ : ∃ q t, fitsG n qs = q :: t := by
      cases hx : fitsG n qs with
      | nil => exact absurd hx hf
      | cons q t => exact ⟨q, t, rfl⟩
    obtain ⟨t2, e2⟩ := low_head hn e
    have : gapP .first n (fitsG n qs) = q.1 := by rw [e]; rfl
    rw [this, e2]
    exact List.mem_cons_self
  | last =>
    obtain ⟨ys, q, e⟩ : ∃ ys q, fitsG n qs = ys ++ [q] := ⟨_, _, (List.dropLast_concat_getLast hf).symm⟩
    obtain ⟨t2, e2⟩ := low_last hn e
    have : gapP .last n (fitsG n qs) = q.1 + q.2 - n := by
      show ((fitsG n qs).getLastD (0, 0)).1 + ((fitsG n qs).getLastD (0, 0)).2 - n = _
      rw [e]
      simp
    rw [this, e2]
    simp
  | best =>
    obtain ⟨q, hq, e⟩ := List.mem_map.mp (minL_mem hne)
    exact pick_low hn hq e
  | worst =>
    obtain ⟨q, hq, e⟩ := List.mem_map.mp (maxL_mem hne)
    exact pick_low hn hq e
  | even =>
    obtain ⟨q, hq, e⟩ := List.mem_map.mp (maxL_mem hne)
    exact pick_low hn hq e
theorem free_top {hi : Int} : ∀ {ps : List (Int × Int)} {lo : Int}, layP hi lo ps → ∀ {k n : Int}, endP lo ps ≤ k → frB ps n k = true
  | [], _, _, _, _, _ => rfl
  | p :: r, lo, h, k, n, hk => by
    obtain ⟨h1, h2, h3, h4⟩ := h
    have hk : endP (p.1 + p.2) r ≤ k := hk
    have := endP_ge r _ h4
    have a : p.1 + p.2 ≤ k := by omega
    have ih := free_top h4 (n := n) hk
    unfold frB at ih ⊢
    rw [List.all_cons, ih, decide_eq_true a]
    rfl
theorem place_facts (r : Rule) {hi : Int} {ps : List (Int × Int)} (h : layP hi 0 ps) {n : Int} (hn : 1 ≤ n) : frB ps n (placeP r ps n) = true ∧ 0 ≤ placeP r ps n ∧ (placeP r ps n ≤ endP 0 ps ∨ r = .even ∧ placeP r ps n < endP 0 ps + strideP n ∧ ∀ b, endP 0 ps ≤ b → b % strideP n = 0 → placeP r ps n ≤ b) := by
  have hge := endP_ge ps 0 h
  have other : ∀ r : Rule, frB ps n (if fitsG n (gapL 0 ps) = [] then endP 0 ps else gapP r n (fitsG n (gapL 0 ps))) = true ∧ 0 ≤ (if fitsG n (gapL 0 ps) = [] then endP 0 ps else gapP r n (fitsG n (gapL 0 ps))) ∧ (if fitsG n (gapL 0 ps) = [] then endP 0 ps else gapP r n (fitsG n (gapL 0 ps))) ≤ endP 0 ps := fun r => by
    by_cases hf : fitsG n (gapL 0 ps) = []
    · rw [if_pos hf]
      exact ⟨free_top h (Int.le_refl _), hge, Int.le_refl _⟩
    · rw [if_neg hf]
      obtain ⟨a1, a2, a3⟩ := low_free h hn (gap_low r hn hf)
      exact ⟨a1, a2, by omega⟩
  cases r with
  | even =>
    obtain ⟨t, ht⟩ := even_ex h n
    obtain ⟨p1, p2, p3, p4⟩ := head_least _ _ _ _ _ ht
    obtain ⟨s1, s2⟩ := stride_pos n
    have hb : ∀ b, endP 0 ps ≤ b → b % strideP n = 0 → evenP ps n ≤ b := fun b b1 b2 => by
      apply Classical.byContradiction
      intro c
      have := p4 b (by omega) (by omega)
      unfold evB at this
      rw [free_top h b1, b2] at this
      cases this
    have m0 : ((endP 0 ps + strideP n - 1) / strideP n * strideP n) % strideP n = 0 := Int.mul_emod_left _ _
    have m1 := Int.ediv_mul_le (endP 0 ps + strideP n - 1) (show strideP n ≠ 0 by omega)
    have m2 := Int.lt_ediv_add_one_mul_self (endP 0 ps + strideP n - 1) (show 0 < strideP n by omega)
    rw [Int.add_mul, Int.one_mul] at m2
    have := hb _ (by omega) m0
    unfold evB at p1
    rw [Bool.and_eq_true] at p1
    exact ⟨p1.1, p2, .inr ⟨rfl, by show evenP ps n < _; omega, hb⟩⟩
  | first => exact ⟨(other .first).1, (other .first).2.1, .inl (other .first).2.2⟩
  | best => exact ⟨(other .best).1, (other .best).2.1, .inl (other .best).2.2⟩
  | worst => exact ⟨(other .worst).1, (other .worst).2.1, .inl (other .worst).2.2⟩
  | last => exact ⟨(other .last).1, (other .last).2.1, .inl (other .last).2.2⟩
/-! turns -/
inductive Turn | ask (n : Int) | lets (k : Int)
def nextP (r : Rule) (ps : List (Int × Int)) : Turn → List (Int × Int)
  | .ask n => sortP (ps ++ [(placeP r ps n, n)])
  | .lets k => ps.filter fun p => !decide (p.1 = k)
def askN (ps : List (Int × Int)) : Int := if 6 - liveP ps < 4 then 6 - liveP ps else 4
def turnsP (ps : List (Int × Int)) : List Turn := ps.map (fun p => .lets p.1) ++ (ups 1 (askN ps).toNat).map .ask
/-- behind s turns, k of them asked -/
structure Good (ps : List (Int × Int)) (s k : Nat) : Prop where
  lay : layP (4 * k) 0 ps
  low : ∀ p ∈ ps, p.1 ≤ 4 * (k : Int) - 4
  len : ps.length ≤ k
  live : liveP ps ≤ 6
  ks : k ≤ s
  all : s = k → (k : Int) ≤ liveP ps
theorem good_next (r : Rule) {ps : List (Int × Int)} {s k : Nat} (g : Good ps s k) (hs : s ≤ 6) {t : Turn} (ht : t ∈ turnsP ps) : ∃ k', Good (nextP r ps t) (s + 1) k' ∧ k' ≤ 6 := by
  obtain ⟨g1, g2, g3, g4, g5, g6⟩ := g
  have hpos : ∀ p ∈ ps, 0 < p.2 := fun p hp => (layP_mem ps 0 g1 p hp).2.1
  rcases List.mem_append.mp ht with ht | ht
  · obtain ⟨p, hp, rfl⟩ := List.mem_map.mp ht
    obtain ⟨l1, l2⟩ := live_filter (fun q => !decide (q.1 = p.1)) ps hpos
    have hlt : (ps.filter fun q => !decide (q.1 = p.1)).length ≤ ps.length := List.length_filter_le _ _
    refine ⟨k, ⟨layP_filter _ ps 0 g1, fun q hq => g2 q (List.mem_filter.mp hq).1, by show (ps.filter fun q => !decide (q.1 = p.1)).length ≤ k; omega, by show liveP (ps.filter fun q => !decide (q.1 = p.1)) ≤ 6; omega, by omega, fun e => by omega⟩, ?_⟩
    by_cases c : k = 7
    · omega
    · have : k ≤ s := g5
      omega
  · obtain ⟨n, hn, rfl⟩ := List.mem_map.mp ht
    have hn := ups_mem _ _ _ hn
    have ha : askN ps ≤ 4 ∧ askN ps ≤ 6 - liveP ps := by unfold askN; split <;> omega
    have hn1 : 1 ≤ n := hn.1
    have hn2 : n ≤ askN ps := by omega
    obtain ⟨f1, f2, f3⟩ := place_facts r g1 hn1
    have hend : endP 0 ps ≤ 4 * k := endP_le ps 0 (by omega) g1
    have hst : (4 * (k : Int)) % strideP n = 0 := by
      unfold strideP
      repeat' split
      all_goals omega
    have hpl : placeP r ps n ≤ 4 * k := by
      rcases f3 with f3 | ⟨_, _, f3⟩
      · omega
      · exact f3 _ hend hst
    have hk : k ≤ 5 := by
      by_cases c : s = k
      · have := g6 c
        omega
      · omega
    have lay : layP (4 * ((k + 1 : Nat) : Int)) 0 (sortP (ps ++ [(placeP r ps n, n)])) := layP_sort (layP_mono (by omega) ps 0 g1) f2 (by omega) (by omega) f1
    have perm := sortP_perm (ps ++ [(placeP r ps n, n)])
    have hlive : liveP (sortP (ps ++ [(placeP r ps n, n)])) = liveP ps + n := by rw [live_perm perm, live_app]
    refine ⟨k + 1, ⟨lay, fun q hq => ?_, ?_, ?_, by omega, fun e => ?_⟩, by omega⟩
    · rcases List.mem_append.mp (perm.mem_iff.mp hq) with hq | hq
      · have := g2 q hq
        omega
      · cases List.mem_singleton.mp hq
        show placeP r ps n ≤ _
        omega
    · show (sortP (ps ++ [(placeP r ps n, n)])).length ≤ _
      rw [perm.length_eq, List.length_append]
      simp
      exact g3
    · show liveP (sortP (ps ++ [(placeP r ps n, n)])) ≤ 6
      rw [hlive]
      omega
    · show ((k + 1 : Nat) : Int) ≤ liveP (sortP (ps ++ [(placeP r ps n, n)]))
      rw [hlive]
      have := g6 (by omega)
      omega
end G_k12

namespace G_k12
open PySem PySem.Spec PyProof.Rows L2 LamX DL
/-! what turns do -/
def layD (ps : List (Int × Int)) : D := .tup (ps.map plD)
def trD : Turn → D
  | .ask n => .tup [.str "ask", .int n]
  | .lets k => .tup [.str "let", .int k]
theorem e_ask_ask : eqB (.str "ask") (.str "ask") = some true := by
  rw [eqB_str (strOk_of _) (strOk_of _)]
  exact congrArg some (by decide +kernel)
theorem e_let_ask : eqB (.str "let") (.str "ask") = some false := by
  rw [eqB_str (strOk_of _) (strOk_of _)]
  exact congrArg some (by decide +kernel)
theorem e_ask_let : eqB (.str "ask") (.str "let") = some false := by
  rw [eqB_str (strOk_of _) (strOk_of _)]
  exact congrArg some (by decide +kernel)
theorem e_let_let : eqB (.str "let") (.str "let") = some true := by
  rw [eqB_str (strOk_of _) (strOk_of _)]
  exact congrArg some (by decide +kernel)
theorem sort_lay {ps : List (Int × Int)} (hl : ps.length ≤ 1000) (p : Int × Int) (π : Rt) : addM (.tup (ps.map plD)) (.tup [plD p]) π = .ok (.tup ((ps ++ [p]).map plD)) π ∧ sortM [.tup ((ps ++ [p]).map plD)] π = .ok ((sortP (ps ++ [p])).map plD) π := by
  refine ⟨?_, ?_⟩
  · rw [addT (by simp; omega), List.map_append]
    rfl
  · exact (sortM_ps (ps := ps ++ [p]) (by simp) (by simp; omega) π).2
theorem with_plot_ok {ps : List (Int × Int)} (hl : ps.length ≤ 1000) (p : Int × Int) (π : Rt) : R_with_plot [.tup (ps.map plD), plD p] π = .ok (.dat (layD (sortP (ps ++ [p])))) π := by
  obtain ⟨e1, e2⟩ := sort_lay hl p π
  unfold layD
  generalize (ps ++ [p]).map plD = zs at *
  simp [R_with_plot, W_with_plot, e1, e2]
theorem not_go {g : GM} {t : Ev → EM Bool} {f : Ev → EM D} {ρ : Ev} {π : Rt} (k : Int) (ps : List (Int × Int)) (h : ∀ p : Int × Int, ∃ ρ', g (plD p) ρ = some ρ' ∧ t ρ' π = .ok (!decide (p.1 = k)) π ∧ f ρ' π = .ok (plD p) π) : compGo g t f ρ (ps.map plD) π = .ok ((ps.filter fun p => !decide (p.1 = k)).map plD) π := by
  refine (compGo_filter (p := fun d => match d with
    | .tup [.int a, .int b] => !decide (a = k)
    | _ => false) (h := id) _ fun d hd => ?_).trans ?_
  · obtain ⟨p, _, rfl⟩ := List.mem_map.mp hd
    obtain ⟨ρ', g1, g2, g3⟩ := h p
    exact ⟨ρ', g1, g2, fun _ => g3⟩
  · rw [List.filter_map, List.map_id]
    rfl
theorem without_plot_ok {ps : List (Int × Int)} (hl : ps.length ≤ 1000) (k : Int) (π : Rt) : R_without_plot [.tup (ps.map plD), .int k] π = .ok (.dat (layD (ps.filter fun p => !decide (p.1 = k)))) π := by
  have hm : most = 1000000 := rfl
  have hpm : ps.length ≤ most := by omega
  have c1 : compGo (gN 2) (eT (eBin neM (eBin ixM (eVar 2) (eC (.int 0))) (eVar 1))) (eVar 2) [some (.dat (.tup (ps.map plD))), some (.dat (.int k)), none] (ps.map plD) π = _ := not_go k ps fun p => by
    have b0 : atI [D.int p.1, .int p.2] 0 = some (.int p.1) := rfl
    exact ⟨_, rfl, by simp [plD, b0], rfl⟩
  unfold layD
  generalize (ps.filter fun p => !decide (p.1 = k)).map plD = zs at *
  simp [R_without_plot, W_without_plot, hpm, c1]
theorem starts_go (qs : List (Int × Int)) (g : GM) (f : Ev → EM D) (h' : Int → D) (ρ : Ev) (π : Rt) (h : ∀ p : Int × Int, ∃ ρ', g (plD p) ρ = some ρ' ∧ f ρ' π = .ok (h' p.1) π) : compGo g tYes_ f ρ (qs.map plD) π = .ok (qs.map fun p => h' p.1) π := by
  refine (compGo_map (h := fun d => match d with
    | .tup [.int a, .int b] => h' a
    | d => d) _ fun d hd => ?_).trans ?_
  · obtain ⟨p, _, rfl⟩ := List.mem_map.mp hd
    obtain ⟨ρ', g1, g2⟩ := h p
    exact ⟨ρ', g1, rfl, g2⟩
  · rw [List.map_map]
    rfl
theorem in_ints (ns : List Int) (k : Int) : inB (.int k) (ns.map D.int) = some (ns.any fun z => decide (z = k)) := by
  have sh : SeqAt.shaped (.list (ns.map PyData.int)) = true := shaped_0 (by simp only [PyData.canLay0]; exact lay_ints ns) (by simp only [PyData.depth, dep_ints]; decide)
  unfold inB
  simp only [D.py, pys_ints, sh, shp_int, Bool.and_self, if_true]
  congr 1
  rw [List.any_map]
  congr 1
/-- the turns that can be taken -/
theorem asks_go (qs : List Int) (g : GM) (f : Ev → EM D) (ρ : Ev) (π : Rt) (h : ∀ k : Int, ∃ ρ', g (.int k) ρ = some ρ' ∧ f ρ' π = .ok (.tup [.str "ask", .int k]) π) : compGo g tYes_ f ρ (qs.map D.int) π = .ok (qs.map fun k => trD (.ask k)) π := by
  refine (compGo_map (h := fun d => match d with
    | .int k => trD (.ask k)
    | d => d) _ fun d hd => ?_).trans ?_
  · obtain ⟨k, _, rfl⟩ := List.mem_map.mp hd
    obtain ⟨ρ', g1, g2⟩ := h k
    exact ⟨ρ', g1, rfl, g2⟩
  · rw [List.map_map]
    rfl
theorem turns_map (ps : List (Int × Int)) : (turnsP ps).map trD = (ps.map fun p => trD (.lets p.1)) ++ ((ups 1 (askN ps).toNat).map fun k => trD (.ask k)) := by
  unfold turnsP
  rw [List.map_append, List.map_map, List.map_map]
  rfl
theorem add_lst {xs ys : List D} (h : xs.length + ys.length ≤ 1000000) (π : Rt) : addM (.lst xs) (.lst ys) π = .ok (.lst (xs ++ ys)) π := by
  have hz : (1000000 : Nat) ≤ sizeLine := by decide
  show ((if xs.length + ys.length ≤ sizeLine then pure (.lst (xs ++ ys)) else EM.bad : EM D) π) = _
  rw [if_pos (by omega)]
  rfl
theorem ask_rng {ps : List (Int × Int)} (h : liveP ps ≤ 6) (h0 : 0 ≤ liveP ps) (π : Rt) : rng2M [.int 1, .int (askN ps + 1)] π = .ok ((ups 1 (askN ps).toNat).map D.int) π ∧ (askN ps).toNat ≤ 4 := by
  have ha : 0 ≤ askN ps ∧ askN ps ≤ 4 := by unfold askN; split <;> omega
  have hr : (DL.inR 1 && DL.inR (askN ps + 1)) = true := by
    unfold DL.inR
    rw [decide_eq_true (by omega), decide_eq_true (by omega), decide_eq_true (by omega), decide_eq_true (by omega)]
    rfl
  refine ⟨?_, by omega⟩
  rw [o_rng2 hr, rng_ups, show (askN ps + 1 - 1).toNat = (askN ps).toNat by omega]
end G_k12

namespace G_k12
open PySem PySem.Spec PyProof.Rows L2 LamX DL
/-! rows of turns -/
def runF (r : Rule) (ps : List (Int × Int)) (ts : List Turn) : List (Int × Int) := ts.foldl (nextP r) ps
def scanF (r : Rule) : List (Int × Int) → List Turn → List (List (Int × Int))
  | ps, [] => [ps]
  | ps, t :: ts => ps :: scanF r (nextP r ps t) ts
theorem run_snoc (r : Rule) (ps : List (Int × Int)) (ts : List Turn) (t : Turn) : runF r ps (ts ++ [t]) = nextP r (runF r ps ts) t := by
  unfold runF
  rw [List.foldl_append]
  rfl
theorem scan_snoc (r : Rule) : ∀ (ts : List Turn) (ps : List (Int × Int)) (t : Turn), scanF r ps (ts ++ [t]) = scanF r ps ts ++ [nextP r (runF r ps ts) t]
  | [], ps, t => rfl
  | a :: ts, ps, t => by
    rw [List.cons_append, scanF, scanF, scan_snoc r ts, List.cons_append]
    rfl
theorem scan_last (r : Rule) : ∀ (ts : List Turn) (ps : List (Int × Int)), ∃ ys, scanF r ps ts = ys ++ [runF r ps ts]
  | [], ps => ⟨[], rfl⟩
  | a :: ts, ps => by
    obtain ⟨ys, e⟩ := scan_last r ts (nextP r ps a)
    exact ⟨ps :: ys, by rw [scanF, e]; rfl⟩
theorem scan_len (r : Rule) : ∀ (ts : List Turn) (ps : List (Int × Int)), (scanF r ps ts).length = ts.length + 1
  | [], _ => rfl
  | a :: ts, ps => by rw [scanF, List.length_cons, scan_len r ts, List.length_cons]
/-- a turn that can be -/
def okT (r : Rule) (ps : List (Int × Int)) (t : Turn) : Prop := layP 100 0 ps ∧ ps.length ≤ 900 ∧ match t with
  | .ask n => n ≤ 32
  | .lets k => (ps.any fun p => decide (p.1 = k)) = true
/-- a loop over turns: what stands behind a part of them; other things behind -/
theorem turns_go {Y : Type} {g : GM} {s : SM} {E : List Turn → Y → Ev} {π : Rt} {all : List Turn} (ds : List D) (hs : ∀ (pre : List Turn) (t : Turn) (suf : List Turn) (y : Y), all = pre ++ t :: suf → ∃ ρ1 y', g (trD t) (E pre y) = some ρ1 ∧ s ρ1 π = .nx (E (pre ++ [t]) y') π) :
    ∀ (suf pre : List Turn) (y : Y), all = pre ++ suf → ∃ y', forGo g s (suf.map trD ++ ds) (E pre y) π = forGo g s ds (E all y') π
  | [], pre, y, h => ⟨y, by rw [h, List.append_nil]; rfl⟩
  | t :: r, pre, y, h => by
    obtain ⟨ρ1, y1, g1, e1⟩ := hs pre t r y h
    obtain ⟨y', e⟩ := turns_go ds hs r (pre ++ [t]) y1 (by rw [h]; simp)
    exact ⟨y', by rw [List.map_cons, List.cons_append, for_cons g1 e1]; exact e⟩
theorem rule_in (r : Rule) (π : Rt) : R_is_rule [.str (ruleS r)] π = .ok (.dat (.bl true)) π := by
  have e : inB (.str (ruleS r)) [.str "first", .str "best", .str "worst", .str "last", .str "even"] = some true := by
    cases r <;> kernel_rfl
  have e2 : ∀ π, inM false (.str (ruleS r)) c_RULES π = .ok (.bl true) π := fun π => by
    show ofO ((inB (.str (ruleS r)) [.str "first", .str "best", .str "worst", .str "last", .str "even"]).map fun b => D.bl b) π = _
    rw [e]
    rfl
  simp [R_is_rule, W_is_rule, e2]
theorem need_rule_ok (r : Rule) (π : Rt) : R_need_rule [.str (ruleS r)] π = .ok (.dat .non) π := by
  have e := rule_in r π
  simp [R_need_rule, W_need_rule, e]
/-! what a turn is -/
def isTn : D → Bool
  | .tup [.str s, x] => (decide (s = "ask") && isNum 1 24 x) || (decide (s = "let") && isNum 0 24 x)
  | _ => false
theorem ask_let : (("ask" : Str) = "let") = False := by
  rw [eq_iff_iff, iff_false]
  have : decide (("ask" : Str) = "let") = false := by decide +kernel
  exact of_decide_eq_false this
def areTn : D → Bool
  | .tup xs => xs.all isTn
  | _ => false
theorem tops_go (L : List (List (Int × Int))) {g : GM} {f : Ev → EM D} {ρ : Ev} {π : Rt} (h' : Int → D) (h : ∀ ps ∈ L, ∃ ρ', g (layD ps) ρ = some ρ' ∧ f ρ' π = .ok (h' (endP 0 ps)) π) : compGo g tYes_ f ρ (L.map layD) π = .ok (L.map fun ps => h' (endP 0 ps)) π := by
  induction L with
  | nil => rfl
  | cons ps r ih =>
    obtain ⟨ρ', g1, g2⟩ := h ps List.mem_cons_self
    have ih := ih fun z hz => h z (List.mem_cons_of_mem _ hz)
    rw [List.map_cons, List.map_cons]
    unfold compGo
    rw [em_bind, g1]
    show ((noX (tYes_ ρ') >>= _) : EM (List D)) π = _
    rw [em_bind, noX_ok (show tYes_ ρ' π = .ok true π from rfl)]
    show ((noX (f ρ') >>= _) : EM (List D)) π = _
    rw [em_bind, noX_ok g2]
    show ((compGo g tYes_ f ρ (r.map layD) >>= _) : EM (List D)) π = _
    rw [em_bind, ih]
    rfl
end G_k12

namespace G_k12
open PySem PySem.Spec PyProof.Rows L2 LamX DL
/-! what k03's law leans on -/
theorem fine_int (n : Nat) (b : Int) : fine n (.int b) = true := by cases n <;> simp only [fine]
theorem fine_bl (n : Nat) (b : Bool) : fine n (.bl b) = true := by cases n <;> simp only [fine]
theorem fine_tup2 {n : Nat} {a b : D} (ha : fine n a = true) (hb : fine n b = true) : fine (n + 1) (.tup [a, b]) = true := by
  rw [fine, List.all_cons, List.all_cons, ha, hb]
  exact (show (decide (2 ≤ most) && (true && (true && true))) = true from by decide)
theorem fine_pl (m : Nat) (ps : List (Int × Int)) (h : ps.length ≤ most) : fine (m + 2) (.tup (ps.map plD)) = true := by
  rw [fine, Bool.and_eq_true, decide_eq_true_eq, List.length_map, List.all_map]
  exact ⟨h, List.all_eq_true.mpr fun p _ => fine_tup2 (fine_int _ _) (fine_int _ _)⟩
theorem fine_lays (m : Nat) (L : List (List (Int × Int))) (h : L.length ≤ most) (hL : ∀ ps ∈ L, ps.length ≤ most) : fine (m + 3) (.tup (L.map layD)) = true := by
  rw [fine, Bool.and_eq_true, decide_eq_true_eq, List.length_map, List.all_map]
  exact ⟨h, List.all_eq_true.mpr fun ps hp => fine_pl m ps (hL ps hp)⟩
theorem fine_str (n : Nat) (s : Str) (h : PyData.strOk s = true) : fine n (.str s) = true := by cases n <;> simp only [fine, h]
theorem fine_trs (m : Nat) (ts : List Turn) (h : ts.length ≤ most) : fine (m + 2) (.tup (ts.map trD)) = true := by
  rw [fine, Bool.and_eq_true, decide_eq_true_eq, List.length_map, List.all_map]
  refine ⟨h, List.all_eq_true.mpr fun t _ => ?_⟩
  cases t with
  | ask n => exact fine_tup2 (fine_str _ _ (strOk_of _)) (fine_int _ _)
  | lets k => exact fine_tup2 (fine_str _ _ (strOk_of _)) (fine_int _ _)
theorem law_rule_ok {π : Rt} (h : Pot π) : ∃ (r : Rule) (π' : Rt), R__law_rule [] π = .ok (.dat (.str (ruleS r))) π' ∧ Pot π' := by
  obtain ⟨d, hd, π', e, p⟩ := pick_ok h (row := [.str "first", .str "best", .str "worst", .str "last", .str "even"]) (by simp) (by simp)
  obtain ⟨r, rfl⟩ : ∃ r : Rule, d = .str (ruleS r) := by
    simp only [List.mem_cons, List.mem_nil_iff, or_false] at hd
    rcases hd with rfl | rfl | rfl | rfl | rfl
    · exact ⟨.first, rfl⟩
    · exact ⟨.best, rfl⟩
    · exact ⟨.worst, rfl⟩
    · exact ⟨.last, rfl⟩
    · exact ⟨.even, rfl⟩
  exact ⟨r, π', by simp [R__law_rule, W__law_rule, e], p⟩
theorem forGo_cnt {g : GM} {s : SM} {I : Nat → Ev → Rt → Prop} (all : List D) : ∀ (ds : List D) (j : Nat) (ρ : Ev) (π : Rt), j + ds.length = all.length → I j ρ π → (∀ d j ρ π, j < all.length → I j ρ π → ∃ ρ1 ρ' π', g d ρ = some ρ1 ∧ s ρ1 π = .nx ρ' π' ∧ I (j + 1) ρ' π') → ∃ ρ' π', forGo g s ds ρ π = .nx ρ' π' ∧ I all.length ρ' π'
  | [], j, ρ, π, hj, h, _ => ⟨ρ, π, rfl, by rw [← hj]; exact h⟩
  | d :: ds, j, ρ, π, hj, h, H => by
    rw [List.length_cons] at hj
    obtain ⟨ρ1, ρ', π', h1, h2, h3⟩ := H d j ρ π (by omega) h
    obtain ⟨ρ2, π2, e, k⟩ := forGo_cnt all ds (j + 1) ρ' π' (by omega) h3 H
    exact ⟨ρ2, π2, by rw [for_cons h1 h2]; exact e, k⟩
/-- a row of turns that the law has drawn -/
def smT : Turn → Prop
  | .ask n => 1 ≤ n ∧ n ≤ 4
  | .lets k => 0 ≤ k ∧ k ≤ 24
structure Row (r : Rule) (ts : List Turn) (k : Nat) : Prop where
  good : Good (runF r [] ts) ts.length k
  k6 : k ≤ 6
  all : ∀ ps ∈ scanF r [] ts, layP 24 0 ps ∧ ps.length ≤ 6
  turns : ∀ t ∈ ts, smT t
  ok : ∀ pre t suf, ts = pre ++ t :: suf → okT r (runF r [] pre) t
theorem good_lay {ps : List (Int × Int)} {s k : Nat} (g : Good ps s k) (h : k ≤ 6) : layP 24 0 ps ∧ ps.length ≤ 6 := ⟨layP_mono (by omega) ps 0 g.lay, by have := g.len; omega⟩
theorem row_nil (r : Rule) : Row r [] 0 := by
  have g : Good [] 0 0 := ⟨trivial, fun p hp => by simp at hp, Nat.le_refl _, by decide, Nat.le_refl _, fun _ => by decide⟩
  refine ⟨g, by decide, fun ps hps => ?_, fun t ht => by simp at ht, fun pre t suf h => by simp at h⟩
  cases List.mem_singleton.mp hps
  exact ⟨trivial, by decide⟩
theorem turn_in {ps : List (Int × Int)} {t : Turn} (hl : layP 24 0 ps) (h0 : 0 ≤ liveP ps) (ht : t ∈ turnsP ps) : smT t := by
  rcases List.mem_append.mp ht with ht | ht
  · obtain ⟨p, hp, rfl⟩ := List.mem_map.mp ht
    have := layP_mem ps 0 hl p hp
    exact ⟨by omega, by omega⟩
  · obtain ⟨n, hn, rfl⟩ := List.mem_map.mp ht
    have hn := ups_mem _ _ _ hn
    have ha : askN ps ≤ 4 := by unfold askN; split <;> omega
    exact ⟨by omega, by omega⟩
theorem live_ge : ∀ (ps : List (Int × Int)), (∀ p ∈ ps, 0 < p.2) → 0 ≤ liveP ps
  | [], _ => Int.le_refl _
  | p :: r, h => by
    have := live_ge r fun q hq => h q (List.mem_cons_of_mem _ hq)
    have := h p List.mem_cons_self
    show 0 ≤ p.2 + liveP r
    omega
theorem live_lay {hi : Int} {ps : List (Int × Int)} (h : layP hi 0 ps) : 0 ≤ liveP ps := live_ge ps fun p hp => (layP_mem ps 0 h p hp).2.1
theorem row_snoc {r : Rule} {ts : List Turn} {k : Nat} (h : Row r ts k) (hs : ts.length ≤ 6) {t : Turn} (ht : t ∈ turnsP (runF r [] ts)) : ∃ k', Row r (ts ++ [t]) k' := by
  obtain ⟨g, k6, all, turns, ok⟩ := h
  obtain ⟨k', g', hk'⟩ := good_next r g hs ht
  obtain ⟨l1, l2⟩ := good_lay g k6
  have tin := turn_in l1 (live_lay l1) ht
  refine ⟨k', ?_, hk', fun ps hps => ?_, fun t' ht' => ?_, fun pre t' suf e => ?_⟩
  · rw [run_snoc, List.length_append]
    exact g'
  · rw [scan_snoc] at hps
    rcases List.mem_append.mp hps with hps | hps
    · exact all ps hps
    · cases List.mem_singleton.mp hps
      exact good_lay g' hk'
  · rcases List.mem_append.mp ht' with q | q
    · exact turns t' q
    · cases List.mem_singleton.mp q
      exact tin
  · rcases List.eq_nil_or_concat suf with c | ⟨suf', t2, c⟩
    · subst c
      obtain ⟨e1, e2⟩ := List.append_inj' e rfl
      cases e2
      subst e1
      refine ⟨layP_mono (by omega) _ 0 l1, by omega, ?_⟩
      rcases List.mem_append.mp ht with q | q
      · obtain ⟨p, hp, rfl⟩ := List.mem_map.mp q
        exact List.any_eq_true.mpr ⟨p, hp, decide_eq_true rfl⟩
      · obtain ⟨n, hn, rfl⟩ := List.mem_map.mp q
        have : n ≤ 4 := tin.2
        show n ≤ 32
        omega
    · rw [List.concat_eq_append] at c
      subst c
      have e' : ts ++ [t] = (pre ++ t' :: suf') ++ [t2] := by rw [e]; simp
      obtain ⟨e1, _⟩ := List.append_inj' e' rfl
      exact ok pre t' suf' e1
theorem turns_ne (ps : List (Int × Int)) : (turnsP ps).map trD ≠ [] := by
  cases ps with
  | nil => exact fun h => by cases h
  | cons p r => exact fun h => by cases h
theorem turns_len {ps : List (Int × Int)} (h : ps.length ≤ 6) : (turnsP ps).length ≤ 10 := by
  unfold turnsP
  rw [List.length_append, List.length_map, List.length_map, ups_len]
  have ha : askN ps ≤ 4 := by unfold askN; split <;> omega
  omega
theorem row_ts {r : Rule} {ts : List Turn} {k : Nat} (h : Row r ts k) (hl : ts.length ≤ 30) : tsB 30 2 (.tup (ts.map trD)) = true := by
  refine ts_tup.mpr ⟨by rw [List.length_map]; exact hl, fun x hx => ?_⟩
  obtain ⟨t, ht, rfl⟩ := List.mem_map.mp hx
  have b := h.turns t ht
  cases t with
  | ask n =>
    have b : 1 ≤ n ∧ n ≤ 4 := b
    refine ts_tup.mpr ⟨by show 2 ≤ 30; decide, fun x hx => ?_⟩
    simp only [List.mem_cons, List.mem_nil_iff, or_false] at hx
    rcases hx with rfl | rfl
    · decide +kernel
    · show decide (n.natAbs < 2 ^ 64) = true
      rw [decide_eq_true_eq]
      omega
  | lets n =>
    have b : 0 ≤ n ∧ n ≤ 24 := b
    refine ts_tup.mpr ⟨by show 2 ≤ 30; decide, fun x hx => ?_⟩
    simp only [List.mem_cons, List.mem_nil_iff, or_false] at hx
    rcases hx with rfl | rfl
    · decide +kernel
    · show decide (n.natAbs < 2 ^ 64) = true
      rw [decide_eq_true_eq]
      omega
theorem isTn_ask {n : Int} (h1 : 1 ≤ n) (h2 : n ≤ 24) : isTn (trD (.ask n)) = true := by
  have : isTn (trD (.ask n)) = ((decide (("ask" : Str) = "ask") && isNum 1 24 (.int n)) || (decide (("ask" : Str) = "let") && isNum 0 24 (.int n))) := rfl
  rw [this, isNum_in h1 h2, decide_eq_true rfl]
  rfl
theorem isTn_let {n : Int} (h1 : 0 ≤ n) (h2 : n ≤ 24) : isTn (trD (.lets n)) = true := by
  have : isTn (trD (.lets n)) = ((decide (("let" : Str) = "ask") && isNum 1 24 (.int n)) || (decide (("let" : Str) = "let") && isNum 0 24 (.int n))) := rfl
  rw [this, isNum_in h1 h2, decide_eq_true (rfl : ("let" : Str) = "let"), Bool.true_and, Bool.or_true]
theorem row_are {r : Rule} {ts : List Turn} {k : Nat} (h : Row r ts k) : areTn (.tup (ts.map trD)) = true := by
  show (ts.map trD).all isTn = true
  rw [List.all_map]
  refine List.all_eq_true.mpr fun t ht => ?_
  have b := h.turns t ht
  cases t with
  | ask n =>
    have b : 1 ≤ n ∧ n ≤ 4 := b
    exact isTn_ask b.1 (by omega)
  | lets n =>
    have b : 0 ≤ n ∧ n ≤ 24 := b
    exact isTn_let b.1 b.2
theorem row_top {r : Rule} {ts : List Turn} {k : Nat} (h : Row r ts k) : ((scanF r [] ts).any fun ps => decide (24 < endP 0 ps)) = false := by
  rw [List.any_eq_false]
  intro ps hps
  have := endP_le ps 0 (by decide) (h.all ps hps).1
  rw [decide_eq_true_eq]
  omega
theorem row_no {r : Rule} {ts : List Turn} {k : Nat} (h : Row r ts k) : ((runF r [] ts).any fun p => decide (p.1 = 23)) = false := by
  rw [List.any_eq_false]
  intro p hp
  have := h.good.low p hp
  have := h.k6
  rw [decide_eq_true_eq]
  omega
/-! a turn too far -/
theorem endP_mem {hi : Int} : ∀ (ps : List (Int × Int)) (lo : Int), layP hi lo ps → ∀ q ∈ ps, q.1 + q.2 ≤ endP lo ps
  | [], _, _, q, hq => by simp at hq
  | p :: r, lo, h, q, hq => by
    obtain ⟨h1, h2, h3, h4⟩ := h
    have g := endP_ge r _ h4
    show q.1 + q.2 ≤ endP (p.1 + p.2) r
    rcases List.mem_cons.mp hq with rfl | hq
    · exact g
    · exact endP_mem r _ h4 q hq
theorem far_one (r : Rule) : nextP r [] (.ask 24) = [(0, 24)] := by
  obtain ⟨_, f2, f3⟩ := place_facts r (hi := 0) (ps := []) trivial (n := 24) (by decide)
  have e : placeP r [] 24 = 0 := by
    rcases f3 with f3 | ⟨_, _, f3⟩
    · have : endP 0 [] = 0 := rfl
      omega
    · have := f3 0 (by decide) (by decide)
      omega
  show sortP ([] ++ [(placeP r [] 24, 24)]) = _
  rw [e]
  exact List.perm_singleton.mp (sortP_perm [(0, 24)])
theorem far_top (r : Rule) : ((scanF r [] [.ask 24, .ask 1]).any fun ps => decide (24 < endP 0 ps)) = true := by
  have hl : layP 24 0 [(0, 24)] := ⟨by decide, by decide, by decide, trivial⟩
  obtain ⟨f1, f2, _⟩ := place_facts r hl (n := 1) (by decide)
  have hp : 24 ≤ placeP r [(0, 24)] 1 := by
    have : ((decide ((0 : Int) + 24 ≤ placeP r [(0, 24)] 1) || decide (placeP r [(0, 24)] 1 + 1 ≤ 0)) && true) = true := f1
    rw [Bool.and_true, Bool.or_eq_true, decide_eq_true_eq, decide_eq_true_eq] at this
    omega
  refine List.any_eq_true.mpr ⟨sortP ([(0, 24)] ++ [(placeP r [(0, 24)] 1, 1)]), ?_, ?_⟩
  · rw [scanF, scanF, scanF, far_one]
    exact List.mem_cons_of_mem _ (List.mem_cons_of_mem _ (List.mem_singleton.mpr rfl))
  · have l2 := layP_sort (hi := placeP r [(0, 24)] 1 + 1) (layP_mono (by omega) _ 0 hl) f2 (by decide) (Int.le_refl _) f1
    have := endP_mem _ 0 l2 (placeP r [(0, 24)] 1, 1) ((sortP_perm _).mem_iff.mpr (by simp))
    have : placeP r [(0, 24)] 1 + 1 ≤ _ := this
    rw [decide_eq_true_eq]
    omega
theorem far_ok (r : Rule) : ∀ pre t suf, [Turn.ask 24, .ask 1] = pre ++ t :: suf → okT r (runF r [] pre) t := fun pre t suf e => by
  match pre, e with
  | [], e =>
    cases e
    exact ⟨trivial, by show 0 ≤ 900; decide, by show (24 : Int) ≤ 32; decide⟩
  | [a], e =>
    cases e
    show okT r (nextP r [] (.ask 24)) _
    rw [far_one]
    exact ⟨⟨by decide, by decide, by decide, trivial⟩, by decide, by show (1 : Int) ≤ 32; decide⟩
  | a :: b :: c, e =>
    have := congrArg List.length e
    simp at this
/-! the law's own word for turns -/
/-! values refused -/
end G_k12

namespace G_k12
open PySem PySem.Spec PyProof.Rows L2 LamX DL
/-! programs of one caller -/
structure Sta where
  ps : List (Int × Int)
  ss : List Int
def stS (r : Rule) (s : Sta) : Turn → Sta
  | .ask n => ⟨sortP (s.ps ++ [(placeP r s.ps n, n)]), s.ss ++ [placeP r s.ps n]⟩
  | .lets j => ⟨s.ps.filter fun p => !decide (p.1 = (atI s.ss j).getD 0), s.ss⟩
def s0 : Sta := ⟨[], []⟩
def runS (r : Rule) (ts : List Turn) : Sta := ts.foldl (stS r) s0
def topsS (r : Rule) : Sta → List Turn → List Int
  | _, [] => []
  | s, t :: ts => endP 0 (stS r s t).ps :: topsS r (stS r s t) ts
def roomS (r : Rule) (ts : List Turn) : Int := maxL (0 :: topsS r s0 ts)
def askC : List Turn → Nat
  | [] => 0
  | .ask _ :: ts => askC ts + 1
  | .lets _ :: ts => askC ts
def wfB : Nat → List Turn → Bool
  | _, [] => true
  | k, .ask n :: ts => decide (1 ≤ n ∧ n ≤ 24) && wfB (k + 1) ts
  | k, .lets j :: ts => decide (0 ≤ j ∧ j < k) && wfB k ts
def okS (k : Nat) : Turn → Prop
  | .ask n => 1 ≤ n ∧ n ≤ 24
  | .lets j => 0 ≤ j ∧ j < k
theorem wf_at : ∀ (pre : List Turn) (k : Nat) (t : Turn) (suf : List Turn), wfB k (pre ++ t :: suf) = true → okS (k + askC pre) t
  | [], k, t, suf, h => by
    cases t with
    | ask n =>
      rw [List.nil_append, wfB, Bool.and_eq_true, decide_eq_true_eq] at h
      exact h.1
    | lets j =>
      rw [List.nil_append, wfB, Bool.and_eq_true, decide_eq_true_eq] at h
      exact h.1
  | a :: r, k, t, suf, h => by
    cases a with
    | ask n =>
      rw [List.cons_append, wfB, Bool.and_eq_true] at h
      have := wf_at r (k + 1) t suf h.2
      rw [askC, show k + (askC r + 1) = k + 1 + askC r by omega]
      exact this
    | lets j =>
      rw [List.cons_append, wfB, Bool.and_eq_true] at h
      exact wf_at r k t suf h.2
theorem runS_snoc (r : Rule) (ts : List Turn) (t : Turn) : runS r (ts ++ [t]) = stS r (runS r ts) t := by
  unfold runS
  rw [List.foldl_append]
  rfl
theorem topsS_snoc (r : Rule) : ∀ (ts : List Turn) (s : Sta) (t : Turn), topsS r s (ts ++ [t]) = topsS r s ts ++ [endP 0 (stS r (ts.foldl (stS r) s) t).ps]
  | [], s, t => rfl
  | a :: ts, s, t => by
    rw [List.cons_append, topsS, topsS, topsS_snoc r ts, List.cons_append]
    rfl
theorem topsS_len (r : Rule) : ∀ (ts : List Turn) (s : Sta), (topsS r s ts).length = ts.length
  | [], _ => rfl
  | a :: ts, s => by rw [topsS, List.length_cons, topsS_len r ts, List.length_cons]
theorem askC_snoc : ∀ (ts : List Turn) (t : Turn), askC (ts ++ [t]) = askC ts + askC [t]
  | [], t => by simp [askC]
  | a :: ts, t => by
    rw [List.cons_append]
    cases a with
    | ask n => rw [askC, askC, askC_snoc ts t]; omega
    | lets j => rw [askC, askC, askC_snoc ts t]
theorem snoc_ind {α : Type} {P : List α → Prop} (h0 : P []) (h1 : ∀ xs x, P xs → P (xs ++ [x])) : ∀ xs, P xs := by
  intro xs
  have : ∀ ys : List α, P ys.reverse := by
    intro ys
    induction ys with
    | nil => exact h0
    | cons y r ih => rw [List.reverse_cons]; exact h1 _ _ ih
  have := this xs.reverse
  rwa [List.reverse_reverse] at this
theorem ss_len (r : Rule) (ts : List Turn) : (runS r ts).ss.length = askC ts := by
  refine snoc_ind (P := fun ts => (runS r ts).ss.length = askC ts) rfl (fun xs x ih => ?_) ts
  rw [runS_snoc, askC_snoc]
  cases x with
  | ask n =>
    show ((runS r xs).ss ++ [_]).length = _
    rw [List.length_append, ih]
    rfl
  | lets j => exact ih
/-- lengths above 0 alone -/
def posT : Turn → Prop
  | .ask n => 1 ≤ n ∧ n ≤ 24
  | .lets _ => True
theorem okS_pos {k : Nat} {t : Turn} (h : okS k t) : posT t := by
  cases t with
  | ask n => exact h
  | lets j => trivial
theorem wf_pos : ∀ (ts : List Turn) (k : Nat), wfB k ts = true → ∀ t ∈ ts, posT t := by
  intro ts k h t ht
  obtain ⟨a, b, e⟩ := List.append_of_mem ht
  subst e
  exact okS_pos (wf_at a k t b h)
theorem stride_le (n : Int) : strideP n ≤ 32 := by
  unfold strideP
  repeat' split
  all_goals omega
theorem st_lay {r : Rule} {s : Sta} {hi : Int} {t : Turn} (h : layP hi 0 s.ps) (h0 : 0 ≤ hi) (hp : posT t) : layP (hi + 55) 0 (stS r s t).ps ∧ (stS r s t).ps.length ≤ s.ps.length + 1 := by
  cases t with
  | ask n =>
    have hp : 1 ≤ n ∧ n ≤ 24 := hp
    obtain ⟨f1, f2, f3⟩ := place_facts r h hp.1
    have hend := endP_le s.ps 0 h0 h
    have hst := stride_le n
    have hpl : placeP r s.ps n ≤ hi + 31 := by
      rcases f3 with f3 | ⟨_, f3, _⟩
      · omega
      · omega
    refine ⟨layP_sort (layP_mono (by omega) s.ps 0 h) f2 (by omega) (by omega) f1, ?_⟩
    show (sortP (s.ps ++ [(placeP r s.ps n, n)])).length ≤ _
    rw [(sortP_perm _).length_eq, List.length_append]
    simp
  | lets j => exact ⟨layP_mono (by omega) _ 0 (layP_filter _ s.ps 0 h), Nat.le_trans (List.length_filter_le _ _) (Nat.le_succ _)⟩
theorem run_lay (r : Rule) (ts : List Turn) : (∀ t ∈ ts, posT t) → layP (55 * ts.length) 0 (runS r ts).ps ∧ (runS r ts).ps.length ≤ ts.length := by
  refine snoc_ind (P := fun ts => (∀ t ∈ ts, posT t) → layP (55 * ts.length) 0 (runS r ts).ps ∧ (runS r ts).ps.length ≤ ts.length) (fun _ => ⟨trivial, Nat.le_refl _⟩) (fun xs x ih h => ?_) ts
  obtain ⟨i1, i2⟩ := ih fun t ht => h t (List.mem_append_left _ ht)
  rw [runS_snoc]
  obtain ⟨l1, l2⟩ := st_lay (r := r) (t := x) i1 (by omega) (h x (by simp))
  rw [List.length_append]
  refine ⟨layP_mono (by simp; omega) _ 0 l1, by simp; omega⟩
theorem maxL_snoc (x : Int) (xs : List Int) (y : Int) : maxL (x :: (xs ++ [y])) = if maxL (x :: xs) < y then y else maxL (x :: xs) := by
  show (xs ++ [y]).foldl _ x = _
  rw [List.foldl_append]
  rfl
/-- where the plot of an ask stands -/
theorem start_at {r : Rule} {pre : List Turn} {j : Int} (h : okS (askC pre) (.lets j)) : ∃ k, atI (runS r pre).ss j = some k := by
  have h : 0 ≤ j ∧ j < askC pre := h
  have := ss_len r pre
  exact ⟨_, atI_get h.1 (by omega)⟩
theorem run_small (r : Rule) {ts pre suf : List Turn} {t : Turn} (hw : wfB 0 ts = true) (hl : ts.length ≤ 8) (hk : ts = pre ++ t :: suf) : okS (askC pre) t ∧ layP 440 0 (runS r pre).ps ∧ (runS r pre).ps.length ≤ 8 ∧ layP 440 0 (stS r (runS r pre) t).ps ∧ (stS r (runS r pre) t).ps.length ≤ 8 ∧ pre.length < 8 := by
  have hlen := congrArg List.length hk
  rw [List.length_append, List.length_cons] at hlen
  have hp := wf_pos ts 0 hw
  have q := wf_at pre 0 t suf (by rw [← hk]; exact hw)
  rw [Nat.zero_add] at q
  obtain ⟨i1, i2⟩ := run_lay r pre fun x hx => hp x (by rw [hk]; exact List.mem_append_left _ hx)
  obtain ⟨j1, j2⟩ := st_lay (r := r) (t := t) i1 (by omega) (okS_pos q)
  exact ⟨q, layP_mono (by omega) _ 0 i1, by omega, layP_mono (by omega) _ 0 j1, by omega, by omega⟩
theorem tops_ok (r : Rule) {ts : List Turn} (hw : wfB 0 ts = true) (hl : ts.length ≤ 8) (π : Rt) : R_tops_of [.str (ruleS r), .tup (ts.map trD)] π = .ok (.lst ((0 :: topsS r s0 ts).map D.int)) π := by
  have hm : most = 1000000 := rfl
  rw [R_tops_of, run_eq [some (.dat (.str (ruleS r))), some (.dat (.tup (ts.map trD))), none, none, none, none, none] rfl]
  unfold W_tops_of
  refine step_nx (P := fun o => outB o = .ok (.lst ((0 :: topsS r s0 ts).map D.int)) π) (ρ1 := [some (.dat (.str (ruleS r))), some (.dat (.tup (ts.map trD))), some (.dat (.tup [])), none, none, none, none]) (π1 := π) (by simp) ?_
  refine step_nx (P := fun o => outB o = .ok (.lst ((0 :: topsS r s0 ts).map D.int)) π) (ρ1 := [some (.dat (.str (ruleS r))), some (.dat (.tup (ts.map trD))), some (.dat (.tup [])), some (.lst []), none, none, none]) (π1 := π) (by simp) ?_
  refine step_nx (P := fun o => outB o = .ok (.lst ((0 :: topsS r s0 ts).map D.int)) π) (ρ1 := [some (.dat (.str (ruleS r))), some (.dat (.tup (ts.map trD))), some (.dat (.tup [])), some (.lst []), some (.lst [.int 0]), none, none]) (π1 := π) (by simp) ?_
  rw [for_seq (ds := ts.map trD) (π1 := π) (by simp)]
  obtain ⟨y, e⟩ := turns_go (Y := Option SV × Option SV) (g := gT 2 (gCons_ (gN 5) (gCons_ (gN 6) gNil_))) (s := sSeq (sIf (eT (eBin eqM (eVar 5) (eC (.str "ask")))) (sSeq (sMut 3 (eVal (eCall R_place_for (aCons (eVar 0) (aCons (eVar 2) (aCons (eVar 6) aNil))))) apF) (sSet 2 (eVal (eCall R_with_plot (aCons (eVar 2) (aCons (eTup (aCons (eBin ixM (eVarB 3) (eUn negM (eC (.int 1)))) (aCons (eVar 6) aNil))) aNil)))))) (sSet 2 (eVal (eCall R_without_plot (aCons (eVar 2) (aCons (eBin ixM (eVarB 3) (eVar 6)) aNil)))))) (sMut 4 (eVal (eCall R_top_of (aCons (eVar 2) aNil))) apF)) (E := fun pre y => [some (.dat (.str (ruleS r))), some (.dat (.tup (ts.map trD))), some (.dat (.tup ((runS r pre).ps.map plD))), some (.lst ((runS r pre).ss.map D.int)), some (.lst ((0 :: topsS r s0 pre).map D.int)), y.1, y.2]) (π := π) (all := ts) [] (fun pre t suf y hk => by
    obtain ⟨ok, l1, l2, l3, l4, l5⟩ := run_small r hw hl hk
    have htl : ((0 :: topsS r s0 pre).map D.int).length < most := by rw [List.length_map, List.length_cons, topsS_len]; omega
    have hsl : ((runS r pre).ss.map D.int).length < most := by
      rw [List.length_map, ss_len]
      have : ∀ ts : List Turn, askC ts ≤ ts.length := by
        intro ts
        induction ts with
        | nil => exact Nat.le_refl _
        | cons a r ih => cases a <;> (rw [askC, List.length_cons]; omega)
      have := this pre
      omega
    have et := top_ok (stS r (runS r pre) t).ps π
    have es : (0 :: topsS r s0 (pre ++ [t])).map D.int = (0 :: topsS r s0 pre).map D.int ++ [.int (endP 0 (stS r (runS r pre) t).ps)] := by
      rw [topsS_snoc, ← List.cons_append, List.map_append]
      rfl
    cases t with
    | ask n =>
      have ok : 1 ≤ n ∧ n ≤ 24 := ok
      have e1 := place_for_ok r l1 (by decide) (by omega) (n := n) (by omega) π
      have e2 := with_plot_ok (ps := (runS r pre).ps) (by omega) (placeP r (runS r pre).ps n, n) π
      have a1 : atI ((runS r pre).ss.map D.int ++ [.int (placeP r (runS r pre).ps n)]) (-1) = some (.int (placeP r (runS r pre).ps n)) := atI_last _ _
      refine ⟨_, (some (.dat (.str "ask")), some (.dat (.int n))), rfl, ?_⟩
      rw [es, runS_snoc]
      have e3 : (stS r (runS r pre) (.ask n)).ss.map D.int = (runS r pre).ss.map D.int ++ [.int (placeP r (runS r pre).ps n)] := by
        show ((runS r pre).ss ++ [_]).map D.int = _
        rw [List.map_append]
        rfl
      have e4 : R_with_plot [.tup ((runS r pre).ps.map plD), .tup [.int (placeP r (runS r pre).ps n), .int n]] π = .ok (.dat (.tup ((stS r (runS r pre) (.ask n)).ps.map plD))) π := e2
      rw [e3]
      generalize (stS r (runS r pre) (.ask n)).ps.map plD = L1 at *
      generalize (runS r pre).ps.map plD = L0 at *
      generalize (runS r pre).ss.map D.int = S0 at *
      generalize (0 :: topsS r s0 pre).map D.int = T0 at *
      simp [e1, e4, a1, et, apF, htl, hsl, e_ask_ask]
    | lets j =>
      obtain ⟨k, hk2⟩ := start_at (r := r) ok
      have e2 := without_plot_ok (ps := (runS r pre).ps) (by omega) k π
      have e4 : R_without_plot [.tup ((runS r pre).ps.map plD), .int k] π = .ok (.dat (.tup ((stS r (runS r pre) (.lets j)).ps.map plD))) π := by
        rw [e2]
        unfold layD
        show _ = Out.ok (RV.dat (.tup (((runS r pre).ps.filter fun p => !decide (p.1 = (atI (runS r pre).ss j).getD 0)).map plD))) π
        rw [hk2]
        rfl
      have a1 : atI ((runS r pre).ss.map D.int) j = some (.int k) := by
        have h1 : 0 ≤ j ∧ j < askC pre := ok
        have h2 := ss_len r pre
        have : j.toNat < (runS r pre).ss.length := by omega
        rw [atI_get h1.1 (by omega)] at hk2
        rw [atI_get h1.1 (by rw [List.length_map]; omega), List.getElem_map]
        have := Option.some.inj hk2
        rw [this]
      refine ⟨_, (some (.dat (.str "let")), some (.dat (.int j))), rfl, ?_⟩
      rw [es, runS_snoc]
      have e3 : (stS r (runS r pre) (.lets j)).ss.map D.int = (runS r pre).ss.map D.int := rfl
      rw [e3]
      generalize (stS r (runS r pre) (.lets j)).ps.map plD = L1 at *
      generalize (runS r pre).ps.map plD = L0 at *
      generalize (runS r pre).ss.map D.int = S0 at *
      generalize (0 :: topsS r s0 pre).map D.int = T0 at *
      simp [e4, a1, et, apF, htl, e_let_ask]) ts [] (none, none) rfl
  rw [List.append_nil] at e
  have e := e.trans rfl
  show outB (soS _ (forGo _ _ (ts.map trD) [some (.dat (.str (ruleS r))), some (.dat (.tup (ts.map trD))), some (.dat (.tup [])), some (.lst []), some (.lst [.int 0]), none, none] π)) = _
  rw [show forGo _ _ (ts.map trD) [some (.dat (.str (ruleS r))), some (.dat (.tup (ts.map trD))), some (.dat (.tup [])), some (.lst []), some (.lst [.int 0]), none, none] π = _ from e, for_nil]
  generalize (0 :: topsS r s0 ts).map D.int = T0 at *
  simp
end G_k12

namespace G_k12
open PySem PySem.Spec PyProof.Rows L2 LamX DL
theorem room_pre (r : Rule) (ts : List Turn) : roomS r ts = maxL (0 :: topsS r s0 ts) := rfl
theorem max2 (a b : Int) (π : Rt) : maxM [.int a, .int b] π = .ok (.int (if a < b then b else a)) π := rfl
theorem law_room_ok (r : Rule) {ts : List Turn} (hw : wfB 0 ts = true) (hl : ts.length ≤ 8) (π : Rt) : R__law_room [.str (ruleS r), .tup (ts.map trD)] π = .ok (.dat (.int (roomS r ts))) π := by
  have hm : most = 1000000 := rfl
  rw [R__law_room, run_eq [some (.dat (.str (ruleS r))), some (.dat (.tup (ts.map trD))), none, none, none, none, none, none] rfl]
  unfold W__law_room
  refine step_nx (P := fun o => outB o = .ok (.dat (.int (roomS r ts))) π) (ρ1 := [some (.dat (.str (ruleS r))), some (.dat (.tup (ts.map trD))), some (.dat (.tup [])), some (.lst []), some (.dat (.int 0)), none, none, none]) (π1 := π) (by simp) ?_
  rw [for_seq (ds := ts.map trD) (π1 := π) (by simp)]
  obtain ⟨y, e⟩ := turns_go (Y := Option SV × Option SV) (g := gT 2 (gCons_ (gN 5) (gCons_ (gN 6) gNil_))) (s := sSeq (sIf (eT (eBin eqM (eVar 5) (eC (.str "ask")))) (sSeq (sMut 3 (eVal (eCall R__law_place (aCons (eVar 0) (aCons (eVar 2) (aCons (eVar 6) aNil))))) apF) (sSet 2 (eCall tupleM (aCons (eFrz (eCall sortM (aCons (eBin addM (eVar 2) (eTup (aCons (eTup (aCons (eBin ixM (eVarB 3) (eUn negM (eC (.int 1)))) (aCons (eVar 6) aNil))) aNil))) aNil))) aNil)))) (sSet 2 (eCall tupleM (aCons (eFrz (eComp (eItems (eVar 2)) (gN 7) (eT (eBin neM (eBin ixM (eVar 7) (eC (.int 0))) (eBin ixM (eVarB 3) (eVar 6)))) (eVar 7) [7])) aNil)))) (sSet 4 (eCall maxM (aCons (eVar 4) (aCons (eVal (eCall R__law_top (aCons (eVar 2) aNil))) aNil))))) (E := fun pre y => [some (.dat (.str (ruleS r))), some (.dat (.tup (ts.map trD))), some (.dat (.tup ((runS r pre).ps.map plD))), some (.lst ((runS r pre).ss.map D.int)), some (.dat (.int (roomS r pre))), y.1, y.2, none]) (π := π) (all := ts) [] (fun pre t suf y hk => by
    obtain ⟨ok, l1, l2, l3, l4, l5⟩ := run_small r hw hl hk
    have hsl : ((runS r pre).ss.map D.int).length < most := by
      rw [List.length_map, ss_len]
      have : ∀ ts : List Turn, askC ts ≤ ts.length := by
        intro ts
        induction ts with
        | nil => exact Nat.le_refl _
        | cons a r ih => cases a <;> (rw [askC, List.length_cons]; omega)
      have := this pre
      omega
    have et := law_top_ok l3 (by omega) π
    have es : roomS r (pre ++ [t]) = if roomS r pre < endP 0 (stS r (runS r pre) t).ps then endP 0 (stS r (runS r pre) t).ps else roomS r pre := by
      rw [room_pre, topsS_snoc, maxL_snoc]
      rfl
    cases t with
    | ask n =>
      have ok : 1 ≤ n ∧ n ≤ 24 := ok
      obtain ⟨m, rfl⟩ : ∃ m : Nat, n = (m : Int) := ⟨n.toNat, by omega⟩
      have e1 := law_place_ok r l1 (by decide) (by omega) (n := m) (by omega) (by omega) π
      obtain ⟨e2, e3⟩ := sort_lay (ps := (runS r pre).ps) (by omega) (placeP r (runS r pre).ps m, (m : Int)) π
      have a1 : atI ((runS r pre).ss.map D.int ++ [.int (placeP r (runS r pre).ps m)]) (-1) = some (.int (placeP r (runS r pre).ps m)) := atI_last _ _
      refine ⟨_, (some (.dat (.str "ask")), some (.dat (.int m))), rfl, ?_⟩
      rw [es, runS_snoc]
      have e4 : (stS r (runS r pre) (.ask m)).ss.map D.int = (runS r pre).ss.map D.int ++ [.int (placeP r (runS r pre).ps m)] := by
        show ((runS r pre).ss ++ [_]).map D.int = _
        rw [List.map_append]
        rfl
      have e5 : (sortP ((runS r pre).ps ++ [(placeP r (runS r pre).ps m, (m : Int))])).map plD = (stS r (runS r pre) (.ask m)).ps.map plD := rfl
      rw [e4]
      rw [e5] at e3
      have e2 : addM (.tup ((runS r pre).ps.map plD)) (.tup [.tup [.int (placeP r (runS r pre).ps m), .int m]]) π = _ := e2
      generalize (stS r (runS r pre) (.ask m)).ps.map plD = L1 at *
      generalize ((runS r pre).ps ++ [(placeP r (runS r pre).ps m, (m : Int))]).map plD = L2 at *
      generalize (runS r pre).ps.map plD = L0 at *
      generalize (runS r pre).ss.map D.int = S0 at *
      simp [e1, e2, e3, a1, et, apF, hsl, e_ask_ask, max2]
    | lets j =>
      obtain ⟨k, hk2⟩ := start_at (r := r) ok
      have hpm : (runS r pre).ps.length ≤ most := by omega
      have e2 : ∀ x5 x6 : Option SV, compGo (gN 7) (eT (eBin neM (eBin ixM (eVar 7) (eC (.int 0))) (eBin ixM (eVarB 3) (eVar 6)))) (eVar 7) [some (.dat (.str (ruleS r))), some (.dat (.tup (ts.map trD))), some (.dat (.tup ((runS r pre).ps.map plD))), some (.lst ((runS r pre).ss.map D.int)), some (.dat (.int (roomS r pre))), some (.dat (.str "let")), some (.dat (.int j)), none] ((runS r pre).ps.map plD) π = .ok ((stS r (runS r pre) (.lets j)).ps.map plD) π := fun x5 x6 => by
        have a1 : atI ((runS r pre).ss.map D.int) j = some (.int k) := by
          have h1 : 0 ≤ j ∧ j < askC pre := ok
          have h2 := ss_len r pre
          have : j.toNat < (runS r pre).ss.length := by omega
          rw [atI_get h1.1 (by omega)] at hk2
          rw [atI_get h1.1 (by rw [List.length_map]; omega), List.getElem_map]
          have := Option.some.inj hk2
          rw [this]
        have : (stS r (runS r pre) (.lets j)).ps = (runS r pre).ps.filter fun p => !decide (p.1 = k) := by
          show ((runS r pre).ps.filter fun p => !decide (p.1 = (atI (runS r pre).ss j).getD 0)) = _
          rw [hk2]
          rfl
        rw [this]
        refine not_go k (runS r pre).ps fun p => ?_
        have b0 : atI [D.int p.1, .int p.2] 0 = some (.int p.1) := rfl
        exact ⟨_, rfl, by simp [plD, b0, a1], rfl⟩
      refine ⟨_, (some (.dat (.str "let")), some (.dat (.int j))), rfl, ?_⟩
      rw [es, runS_snoc]
      have e3 : (stS r (runS r pre) (.lets j)).ss.map D.int = (runS r pre).ss.map D.int := rfl
      rw [e3]
      have e2 := e2 none none
      have hpm : ((runS r pre).ps.map plD).length ≤ most := by rw [List.length_map]; exact hpm
      generalize (stS r (runS r pre) (.lets j)).ps.map plD = L1 at *
      generalize (runS r pre).ps.map plD = L0 at *
      generalize (runS r pre).ss.map D.int = S0 at *
      simp [e2, et, e_let_ask, hpm, max2]) ts [] (none, none) rfl
  rw [List.append_nil] at e
  rw [show forGo _ _ (ts.map trD) [some (.dat (.str (ruleS r))), some (.dat (.tup (ts.map trD))), some (.dat (.tup [])), some (.lst []), some (.dat (.int 0)), none, none, none] π = _ from e, for_nil]
  simp
end G_k12

namespace G_k12
open PySem PySem.Spec PyProof.Rows L2 LamX DL
/-! what a program is -/
def isStepB (k : Int) : D → Bool
  | .tup [.str s, x] => if s = "ask" then isNum 1 24 x else decide (s = "let") && isNum 0 (k - 1) x
  | _ => false
theorem is_step_ok {m n : Nat} {d : D} (h : th m n d = true) (k : Int) (π : Rt) : R_is_step [d, .int k] π = .ok (.dat (.bl (isStepB k d))) π := by
  cases d with
  | tup xs =>
    by_cases c : xs.length = 2
    · match xs, c with
      | [a, b], _ =>
        cases n with
        | zero => simp [th] at h
        | succ n =>
          obtain ⟨t1, t2⟩ := th_tup.mp h
          have ta := t2 a List.mem_cons_self
          have tb := t2 b (List.mem_cons_of_mem _ List.mem_cons_self)
          have a0 : atI [a, b] 0 = some a := rfl
          have a1 : atI [a, b] 1 = some b := rfl
          cases a with
          | str s =>
            have hs : PyData.strOk s = true := by cases n <;> simpa [th] using ta
            have q1 : eqB (.str s) (.str "ask") = some (decide (s = "ask")) := eqB_str hs (strOk_of _)
            have q2 : eqB (.str s) (.str "let") = some (decide (s = "let")) := eqB_str hs (strOk_of _)
            have n1 := is_number_ok (plain_th b tb) 1 24 π
            have n0 := is_number_ok (plain_th b tb) 0 (k - 1) π
            have ei : isStepB k (.tup [.str s, b]) = if s = "ask" then isNum 1 24 b else decide (s = "let") && isNum 0 (k - 1) b := rfl
            rw [ei]
            by_cases c1 : s = "ask"
            · rw [decide_eq_true c1] at q1
              rw [if_pos c1]
              simp [R_is_step, W_is_step, a0, a1, c_MOST_FIELD, q1, n1, soS_retR, out_retR]
            · rw [decide_eq_false c1] at q1
              rw [if_neg c1]
              by_cases c2 : s = "let"
              · rw [decide_eq_true c2] at q2
                rw [decide_eq_true c2, Bool.true_and]
                simp [R_is_step, W_is_step, a0, a1, q1, q2, n0]
              · rw [decide_eq_false c2] at q2
                rw [decide_eq_false c2, Bool.false_and]
                simp [R_is_step, W_is_step, a0, a1, q1, q2]
          | frz _ => cases n <;> simp [th] at ta
          | obj _ _ => cases n <;> simp [th] at ta
          | raw _ => cases n <;> simp [th] at ta
          | dct _ => cases n <;> simp [th] at ta
          | _ => simp [R_is_step, W_is_step, a0, isStepB]
    · have c' : ¬ ((xs.length : Int) = 2) := by omega
      have hf : isStepB k (.tup xs) = false := by
        match xs, c with
        | [], _ => rfl
        | [a], _ => cases a <;> rfl
        | a :: b :: e :: r, _ => cases a <;> rfl
      rw [hf]
      simp [R_is_step, W_is_step, c']
  | frz _ => cases n <;> simp [th] at h
  | obj _ _ => cases n <;> simp [th] at h
  | raw _ => cases n <;> simp [th] at h
  | dct _ => cases n <;> simp [th] at h
  | _ => simp [R_is_step, W_is_step, isStepB]
theorem isNum_ex {lo hi : Int} {x : D} (h : isNum lo hi x = true) : ∃ i, x = .int i ∧ lo ≤ i ∧ i ≤ hi := by
  cases x with
  | int i =>
    have h : (decide (lo ≤ i) && decide (i ≤ hi)) = true := h
    rw [Bool.and_eq_true, decide_eq_true_eq, decide_eq_true_eq] at h
    exact ⟨i, rfl, h⟩
  | _ => exact absurd h (by first | exact fun z => by cases z | (unfold isNum; exact fun z => by cases z))
theorem isStep_ex {k : Nat} {d : D} (h : isStepB k d = true) : ∃ t : Turn, d = trD t ∧ okS k t := by
  unfold isStepB at h
  split at h
  · next s x =>
    split at h
    · next e =>
      subst e
      obtain ⟨i, rfl, h1, h2⟩ := isNum_ex h
      exact ⟨.ask i, rfl, h1, h2⟩
    · rw [Bool.and_eq_true, decide_eq_true_eq] at h
      obtain ⟨e, h⟩ := h
      subst e
      obtain ⟨i, rfl, h1, h2⟩ := isNum_ex h
      exact ⟨.lets i, rfl, h1, by omega⟩
  · cases h
theorem step_isB {k : Nat} {t : Turn} (h : okS k t) : isStepB k (trD t) = true := by
  cases t with
  | ask n =>
    have h : 1 ≤ n ∧ n ≤ 24 := h
    have e : isStepB k (trD (.ask n)) = if ("ask" : Str) = "ask" then isNum 1 24 (.int n) else decide (("ask" : Str) = "let") && isNum 0 (k - 1) (.int n) := rfl
    rw [e, if_pos rfl]
    exact isNum_in h.1 h.2
  | lets j =>
    have h : 0 ≤ j ∧ j < k := h
    show (if ("let" : Str) = "ask" then isNum 1 24 (.int j) else decide (("let" : Str) = "let") && isNum 0 (k - 1) (.int j)) = true
    rw [if_neg (of_decide_eq_false (by decide +kernel)), decide_eq_true rfl, Bool.true_and]
    exact isNum_in h.1 (by omega)
def askB : D → Bool
  | .tup [.str s, _] => decide (s = "ask")
  | _ => false
def numB : D → Int
  | .tup [_, .int n] => n
  | _ => 0
/-- the steps, behind k asks and lets of g -/
def progB : Nat → List Int → List D → Bool
  | _, _, [] => true
  | k, g, d :: ds => isStepB k d && (if askB d = true then progB (k + 1) g ds else !(g.any fun z => decide (z = numB d)) && progB k (g ++ [numB d]) ds)
theorem progB_ask (k : Nat) (g : List Int) (n : Int) (ds : List D) (h : okS k (.ask n)) : progB k g (trD (.ask n) :: ds) = progB (k + 1) g ds := by
  rw [progB, step_isB h, Bool.true_and]
  have e : askB (trD (.ask n)) = true := by
    show decide (("ask" : Str) = "ask") = true
    decide +kernel
  rw [e, if_pos rfl]
theorem progB_let (k : Nat) (g : List Int) (j : Int) (ds : List D) (h : okS k (.lets j)) : progB k g (trD (.lets j) :: ds) = (!(g.any fun z => decide (z = j)) && progB k (g ++ [j]) ds) := by
  rw [progB, step_isB h, Bool.true_and]
  have e : askB (trD (.lets j)) = false := by
    show decide (("let" : Str) = "ask") = false
    decide +kernel
  rw [e, if_neg (by decide)]
  rfl
theorem progB_no (k : Nat) (g : List Int) (d : D) (ds : List D) (h : isStepB k d = false) : progB k g (d :: ds) = false := by
  rw [progB, h, Bool.false_and]
theorem prog_wf : ∀ (ds : List D) (k : Nat) (g : List Int), progB k g ds = true → ∃ ts : List Turn, ds = ts.map trD ∧ wfB k ts = true
  | [], k, g, _ => ⟨[], rfl, rfl⟩
  | d :: ds, k, g, h => by
    cases hd : isStepB k d with
    | false => rw [progB_no k g d ds hd] at h; cases h
    | true =>
      obtain ⟨t, rfl, ok⟩ := isStep_ex hd
      cases t with
      | ask n =>
        rw [progB_ask k g n ds ok] at h
        obtain ⟨ts, rfl, w⟩ := prog_wf ds _ _ h
        refine ⟨.ask n :: ts, rfl, ?_⟩
        rw [wfB, w, Bool.and_true]
        exact decide_eq_true ok
      | lets j =>
        rw [progB_let k g j ds ok, Bool.and_eq_true] at h
        obtain ⟨ts, rfl, w⟩ := prog_wf ds _ _ h.2
        refine ⟨.lets j :: ts, rfl, ?_⟩
        rw [wfB, w, Bool.and_true]
        exact decide_eq_true ok
def isProg : D → Bool
  | .tup xs => decide (1 ≤ xs.length ∧ xs.length ≤ 8) && progB 0 [] xs
  | _ => false
theorem isProg_ex {d : D} (h : isProg d = true) : ∃ ts : List Turn, d = .tup (ts.map trD) ∧ wfB 0 ts = true ∧ 1 ≤ ts.length ∧ ts.length ≤ 8 := by
  unfold isProg at h
  split at h
  · next xs =>
    rw [Bool.and_eq_true, decide_eq_true_eq] at h
    obtain ⟨ts, e, w⟩ := prog_wf xs 0 [] h.2
    subst e
    rw [List.length_map] at h
    exact ⟨ts, rfl, w, h.1⟩
  · cases h
abbrev stepW : SM := sSeq (sIf (tNot_ (eT (eVal (eCall R_is_step (aCons (eVar 3) (aCons (eVar 1) aNil)))))) (sRet (eC (.bl false))) sNop) (sIf (eT (eBin eqM (eBin ixM (eVar 3) (eC (.int 0))) (eC (.str "ask")))) (sAug 1 (fun i j => i + j) (eC (.int 1))) (sIf (eT (eBin (inM false) (eBin ixM (eVar 3) (eC (.int 1))) (eVarB 2))) (sRet (eC (.bl false))) (sMut 2 (eBin ixM (eVar 3) (eC (.int 1))) apF)))
theorem prog_go {m n : Nat} (v : D) (π : Rt) : ∀ (ds : List D) (k : Nat) (g : List Int) (x3 : Option SV), (∀ d ∈ ds, th m n d = true) → g.length + ds.length < most →
    (progB k g ds = true → ∃ a b c, forGo (gN 3) stepW ds [some (.dat v), some (.dat (.int k)), some (.lst (g.map D.int)), x3] π = .nx [some (.dat v), a, b, c] π) ∧
    (progB k g ds = false → ∃ ρ', forGo (gN 3) stepW ds [some (.dat v), some (.dat (.int k)), some (.lst (g.map D.int)), x3] π = .ret (.dat (.bl false)) ρ' π)
  | [], k, g, x3, _, _ => ⟨fun _ => ⟨_, _, _, rfl⟩, fun h => by cases h⟩
  | d :: ds, k, g, x3, hd, hl => by
    rw [List.length_cons] at hl
    have e1 := is_step_ok (hd d List.mem_cons_self) k π
    have ht := fun z hz => hd z (List.mem_cons_of_mem _ hz)
    cases hs : isStepB k d with
    | false =>
      rw [hs] at e1
      refine ⟨fun h => (by rw [progB_no k g d ds hs] at h; cases h), fun _ => ?_⟩
      rw [forGo]
      simp [e1]
    | true =>
      rw [hs] at e1
      obtain ⟨t, rfl, ok⟩ := isStep_ex hs
      cases t with
      | ask j =>
        rw [progB_ask k g j ds ok]
        have a0 : atI [D.str "ask", .int j] 0 = some (.str "ask") := rfl
        have e1 : R_is_step [.tup [.str "ask", .int j], .int k] π = _ := e1
        have hstep : stepW [some (.dat v), some (.dat (.int k)), some (.lst (g.map D.int)), some (.dat (trD (.ask j)))] π = .nx [some (.dat v), some (.dat (.int (k + 1 : Nat))), some (.lst (g.map D.int)), some (.dat (trD (.ask j)))] π := by
          have : ((k + 1 : Nat) : Int) = (k : Int) + 1 := by omega
          rw [this]
          simp [trD, e1, a0, e_ask_ask]
        have ih := prog_go (m := m) (n := n) v π ds (k + 1) g (some (.dat (trD (.ask j)))) ht (by omega)
        rw [for_cons (ρ1 := [some (.dat v), some (.dat (.int k)), some (.lst (g.map D.int)), some (.dat (trD (.ask j)))]) rfl hstep]
        exact ih
      | lets j =>
        rw [progB_let k g j ds ok]
        have a0 : atI [D.str "let", .int j] 0 = some (.str "let") := rfl
        have a1 : atI [D.str "let", .int j] 1 = some (.int j) := rfl
        have e1 : R_is_step [.tup [.str "let", .int j], .int k] π = _ := e1
        have e3 := in_ints g j
        have e4 : ∀ π, inM false (.int j) (.lst (g.map D.int)) π = .ok (.bl (g.any fun z => decide (z = j))) π := fun π => by
          show ofO ((inB (.int j) (g.map D.int)).map fun b => D.bl b) π = _
          rw [e3]
          rfl
        cases hb : g.any fun z => decide (z = j) with
        | true =>
          rw [hb] at e4
          refine ⟨fun h => (by cases h), fun _ => ?_⟩
          rw [forGo]
          simp [trD, e1, a0, a1, e_let_ask, e4]
        | false =>
          rw [hb] at e4
          have hgl : (g.map D.int).length < most := by rw [List.length_map]; omega
          have hstep : stepW [some (.dat v), some (.dat (.int k)), some (.lst (g.map D.int)), some (.dat (trD (.lets j)))] π = .nx [some (.dat v), some (.dat (.int k)), some (.lst ((g ++ [j]).map D.int)), some (.dat (trD (.lets j)))] π := by
            rw [List.map_append]
            have : [j].map D.int = [.int j] := rfl
            rw [this]
            generalize g.map D.int = G0 at *
            simp [trD, e1, a0, a1, e_let_ask, e4, apF, hgl]
          have ih := prog_go (m := m) (n := n) v π ds k (g ++ [j]) (some (.dat (trD (.lets j)))) ht (by rw [List.length_append]; simp; omega)
          rw [for_cons (ρ1 := [some (.dat v), some (.dat (.int k)), some (.lst (g.map D.int)), some (.dat (trD (.lets j)))]) rfl hstep, Bool.not_false, Bool.true_and]
          exact ih
theorem is_program_ok {m n : Nat} (hm : m ≤ 1000) {d : D} (h : th m n d = true) (π : Rt) : R_is_program [d] π = .ok (.dat (.bl (isProg d))) π := by
  have hmm : most = 1000000 := rfl
  cases d with
  | tup xs =>
    cases n with
    | zero => simp [th] at h
    | succ n =>
      obtain ⟨t1, t2⟩ := th_tup.mp h
      have ei : isProg (.tup xs) = (decide (1 ≤ xs.length ∧ xs.length ≤ 8) && progB 0 [] xs) := rfl
      rw [ei]
      by_cases c : 1 ≤ xs.length ∧ xs.length ≤ 8
      · rw [decide_eq_true c, Bool.true_and]
        have c1 : (1 : Int) ≤ xs.length := by omega
        have c2 : (xs.length : Int) ≤ 8 := by omega
        obtain ⟨p1, p2⟩ := prog_go (m := m) (n := n) (.tup xs) π xs 0 [] none t2 (by simp; omega)
        rw [R_is_program, run_eq [some (.dat (.tup xs)), none, none, none] rfl]
        unfold W_is_program
        refine step_nx (P := fun o => outB o = .ok (.dat (.bl (progB 0 [] xs))) π) (ρ1 := [some (.dat (.tup xs)), none, none, none]) (π1 := π) (by simp [c1, c2, c_MOST_STEPS]) ?_
        refine step_nx (P := fun o => outB o = .ok (.dat (.bl (progB 0 [] xs))) π) (ρ1 := [some (.dat (.tup xs)), some (.dat (.int (0 : Nat))), none, none]) (π1 := π) (by simp) ?_
        refine step_nx (P := fun o => outB o = .ok (.dat (.bl (progB 0 [] xs))) π) (ρ1 := [some (.dat (.tup xs)), some (.dat (.int (0 : Nat))), some (.lst (([] : List Int).map D.int)), none]) (π1 := π) (by simp) ?_
        rw [for_seq (ds := xs) (π1 := π) (by simp)]
        cases hb : progB 0 [] xs with
        | true =>
          obtain ⟨a, b, c, e⟩ := p1 hb
          rw [e]
          simp
        | false =>
          obtain ⟨ρ', e⟩ := p2 hb
          rw [e]
          simp
      · rw [decide_eq_false c, Bool.false_and]
        by_cases c1 : (1 : Int) ≤ xs.length
        · have c2 : ¬ (xs.length : Int) ≤ 8 := by omega
          simp [R_is_program, W_is_program, c1, c2, c_MOST_STEPS]
        · simp [R_is_program, W_is_program, c1, c_MOST_STEPS]
  | frz _ => cases n <;> simp [th] at h
  | obj _ _ => cases n <;> simp [th] at h
  | raw _ => cases n <;> simp [th] at h
  | dct _ => cases n <;> simp [th] at h
  | _ => simp [R_is_program, W_is_program, isProg]
end G_k12

namespace G_k12
open PySem PySem.Spec PyProof.Rows L2 LamX DL
/-! what is left of a program -/
theorem atI_map {α β : Type} (f : α → β) (xs : List α) (k : Int) : atI (xs.map f) k = (atI xs k).map f := by
  unfold atI
  rw [List.length_map]
  cases ixN xs.length k with
  | none => rfl
  | some j => exact List.getElem?_map ..
theorem for_ret {g : GM} {s : SM} {d : D} {ds : List D} {ρ ρ1 ρ2 : Ev} {π π2 : Rt} {rv : RV} (h1 : g d ρ = some ρ1) (h2 : s ρ1 π = .ret rv ρ2 π2) : forGo g s (d :: ds) ρ π = .ret rv ρ2 π2 := by
  rw [forGo]
  simp only [h1, h2]
def asksF : Int → List Turn → List Int
  | _, [] => []
  | i, .ask _ :: ts => i :: asksF (i + 1) ts
  | i, .lets _ :: ts => asksF (i + 1) ts
def isAT : Turn → Bool
  | .ask _ => true
  | .lets _ => false
def isAI (ts : List Turn) (k : Int) : Bool := match atI ts k with
  | some (.ask _) => true
  | _ => false
def stepK (ts : List Turn) (kept : List Int) (k : Int) : Option Turn := match atI ts k with
  | some (.ask n) => some (.ask n)
  | some (.lets j) => (atI (asksF 0 ts) j).bind fun a => (kept.findIdx? fun z => decide (z = a)).map fun (i : Nat) => Turn.lets (i : Int)
  | none => none
def goK (ts : List Turn) (kept : List Int) : List Int → Option (List Turn)
  | [] => some []
  | k :: r => match stepK ts kept k with
    | none => none
    | some t => (goK ts kept r).map (t :: ·)
def keptF (ts : List Turn) (row : List Int) : Option (List Turn) := goK ts (row.filter (isAI ts)) row
def keptD : Option (List Turn) → D
  | none => .non
  | some ts => .tup (ts.map trD)
theorem asksF_len : ∀ (ts : List Turn) (i : Int), (asksF i ts).length = askC ts
  | [], _ => rfl
  | .ask n :: ts, i => by rw [asksF, List.length_cons, asksF_len ts, askC]
  | .lets n :: ts, i => by rw [asksF, asksF_len ts, askC]
theorem askC_app : ∀ (xs ys : List Turn), askC (xs ++ ys) = askC xs + askC ys
  | [], ys => by simp [askC]
  | .ask n :: xs, ys => by rw [List.cons_append, askC, askC, askC_app xs]; omega
  | .lets n :: xs, ys => by rw [List.cons_append, askC, askC, askC_app xs]
theorem askC_le (ts : List Turn) : askC ts ≤ ts.length := by
  induction ts with
  | nil => exact Nat.le_refl _
  | cons a r ih => cases a <;> (rw [askC, List.length_cons]; omega)
/-- the asks by number -/
theorem asks_enu (g : GM) (t : Ev → EM Bool) (f : Ev → EM D) (ρ : Ev) (π : Rt) (h : ∀ (k : Nat) (z : Turn), ∃ ρ', g (.tup [.int (k : Nat), trD z]) ρ = some ρ' ∧ t ρ' π = .ok (isAT z) π ∧ f ρ' π = .ok (.int (k : Nat)) π) : ∀ (ts : List Turn) (k : Nat), compGo g t f ρ (((ts.map trD).zipIdx k).map fun p => D.tup [.int (p.2 : Int), p.1]) π = .ok ((asksF k ts).map D.int) π
  | [], k => rfl
  | z :: ts, k => by
    obtain ⟨ρ', h1, h2, h3⟩ := h k z
    have ih := asks_enu g t f ρ π h ts (k + 1)
    have e : ((k + 1 : Nat) : Int) = (k : Int) + 1 := by omega
    rw [e] at ih
    rw [List.map_cons, List.zipIdx_cons, List.map_cons]
    unfold compGo
    rw [em_bind, h1]
    show ((noX (t ρ') >>= _) : EM (List D)) π = _
    rw [em_bind, noX_ok h2]
    cases z with
    | ask n =>
      show ((noX (f ρ') >>= _) : EM (List D)) π = _
      rw [em_bind, noX_ok h3]
      show ((compGo g t f ρ _ >>= _) : EM (List D)) π = _
      rw [em_bind, ih]
      rfl
    | lets n =>
      show compGo g t f ρ _ π = _
      rw [ih]
      rfl
theorem asks_rng (ts : List Turn) (g : GM) (t : Ev → EM Bool) (f : Ev → EM D) (ρ : Ev) (π : Rt) (h : ∀ (k : Nat) (z : Turn), ts[k]? = some z → ∃ ρ', g (.int (k : Nat)) ρ = some ρ' ∧ t ρ' π = .ok (isAT z) π ∧ f ρ' π = .ok (.int (k : Nat)) π) : ∀ (suf : List Turn) (k : Nat), (∀ j z, suf[j]? = some z → ts[k + j]? = some z) → compGo g t f ρ ((ups (k : Nat) suf.length).map D.int) π = .ok ((asksF k suf).map D.int) π
  | [], k, _ => rfl
  | z :: suf, k, hs => by
    obtain ⟨ρ', h1, h2, h3⟩ := h k z (hs 0 z rfl)
    have ih := asks_rng ts g t f ρ π h suf (k + 1) fun j y hy => by
      have := hs (j + 1) y hy
      rw [show k + 1 + j = k + (j + 1) by omega]
      exact this
    have e : ((k + 1 : Nat) : Int) = (k : Int) + 1 := by omega
    rw [e] at ih
    rw [List.length_cons, ups, List.map_cons]
    unfold compGo
    rw [em_bind, h1]
    show ((noX (t ρ') >>= _) : EM (List D)) π = _
    rw [em_bind, noX_ok h2]
    cases z with
    | ask n =>
      show ((noX (f ρ') >>= _) : EM (List D)) π = _
      rw [em_bind, noX_ok h3]
      show ((compGo g t f ρ _ >>= _) : EM (List D)) π = _
      rw [em_bind, ih]
      rfl
    | lets n =>
      show compGo g t f ρ _ π = _
      rw [ih]
      rfl
theorem ints_filter (p : Int → Bool) (g : GM) (t : Ev → EM Bool) (f : Ev → EM D) (ρ : Ev) (π : Rt) (row : List Int) (h : ∀ k ∈ row, ∃ ρ', g (.int k) ρ = some ρ' ∧ t ρ' π = .ok (p k) π ∧ f ρ' π = .ok (.int k) π) : compGo g t f ρ (row.map D.int) π = .ok ((row.filter p).map D.int) π := by
  refine (compGo_filter (p := fun d => match d with
    | .int k => p k
    | _ => false) (h := id) _ fun d hd => ?_).trans ?_
  · obtain ⟨k, hk, rfl⟩ := List.mem_map.mp hd
    obtain ⟨ρ', g1, g2, g3⟩ := h k hk
    exact ⟨ρ', g1, g2, fun _ => g3⟩
  · rw [List.filter_map, List.map_id]
    rfl
/-- what a let names is there -/
theorem let_ask {ts : List Turn} (hw : wfB 0 ts = true) {k j : Int} (h : atI ts k = some (.lets j)) : ∃ a, atI (asksF 0 ts) j = some a := by
  obtain ⟨i, e1, e2⟩ := Option.bind_eq_some_iff.mp (show (ixN ts.length k).bind (fun j => ts[j]?) = _ from h)
  obtain ⟨hi, e3⟩ := List.getElem?_eq_some_iff.mp e2
  have e4 : ts = ts.take i ++ .lets j :: ts.drop (i + 1) := by
    rw [← e3]
    simp
  have ok := wf_at (ts.take i) 0 (.lets j) (ts.drop (i + 1)) (by rw [← e4]; exact hw)
  have ok : 0 ≤ j ∧ j < (0 + askC (ts.take i) : Nat) := ok
  have hl := asksF_len ts 0
  have : askC ts = askC (ts.take i) + askC (.lets j :: ts.drop (i + 1)) := by
    have := askC_app (ts.take i) (.lets j :: ts.drop (i + 1))
    rwa [← e4] at this
  exact ⟨_, atI_get ok.1 (by omega)⟩
theorem in_row {ts : List Turn} {k : Int} (h : 0 ≤ k ∧ k < ts.length) : ∃ t, atI ts k = some t := ⟨_, atI_get h.1 (by omega)⟩
theorem in_kept (kept : List Int) (a : Int) : (kept.findIdx? fun z => decide (z = a)).isSome = kept.any fun z => decide (z = a) := by
  rw [Bool.eq_iff_iff, List.any_eq_true, Option.isSome_iff_exists]
  constructor
  · intro ⟨i, hi⟩
    obtain ⟨h1, h2, _⟩ := List.findIdx?_eq_some_iff_getElem.mp hi
    exact ⟨_, List.getElem_mem h1, h2⟩
  · intro ⟨z, hz, e⟩
    cases hf : kept.findIdx? fun z => decide (z = a) with
    | some i => exact ⟨i, rfl⟩
    | none =>
      have := List.findIdx?_eq_none_iff.mp hf z hz
      rw [e] at this
      cases this
theorem notin_ints (ns : List Int) (k : Int) (π : Rt) : inM true (.int k) (.lst (ns.map D.int)) π = .ok (.bl (!(ns.any fun z => decide (z = k)))) π := by
  show ofO ((inB (.int k) (ns.map D.int)).map fun b => D.bl (!b)) π = _
  rw [in_ints]
  rfl
theorem kept_go {ts : List Turn} (hw : wfB 0 ts = true) (kept : List Int) (v1 : D) (π : Rt) : ∀ (row : List Int) (found : List Turn) (x2 x7 x8 x3 : Option SV), (∀ k ∈ row, 0 ≤ k ∧ k < ts.length) → found.length + row.length < most →
    (∀ us, goK ts kept row = some us → ∃ a b c, forGo (gN 2) (sSeq (sAsg (gT 2 (gCons_ (gN 7) (gCons_ (gN 8) gNil_))) (eBin ixM (eVar 0) (eVar 2))) (sIf (eT (eBin eqM (eVar 7) (eC (.str "ask")))) (sMut 6 (eBin ixM (eVar 0) (eVar 2)) apF) (sIf (eT (eBin (inM true) (eBin ixM (eVar 4) (eVar 8)) (eVar 5))) (sRet (eC .non)) (sMut 6 (eTup (aCons (eVar 7) (aCons (eIdx (eVar 5) (eBin ixM (eVar 4) (eVar 8))) aNil))) apF)))) (row.map D.int) [some (.dat (.tup (ts.map trD))), some (.dat v1), x2, x3, some (.dat (.lst ((asksF 0 ts).map D.int))), some (.dat (.lst (kept.map D.int))), some (.lst (found.map trD)), x7, x8] π = .nx [some (.dat (.tup (ts.map trD))), some (.dat v1), a, x3, some (.dat (.lst ((asksF 0 ts).map D.int))), some (.dat (.lst (kept.map D.int))), some (.lst ((found ++ us).map trD)), b, c] π) ∧
    (goK ts kept row = none → ∃ ρ', forGo (gN 2) (sSeq (sAsg (gT 2 (gCons_ (gN 7) (gCons_ (gN 8) gNil_))) (eBin ixM (eVar 0) (eVar 2))) (sIf (eT (eBin eqM (eVar 7) (eC (.str "ask")))) (sMut 6 (eBin ixM (eVar 0) (eVar 2)) apF) (sIf (eT (eBin (inM true) (eBin ixM (eVar 4) (eVar 8)) (eVar 5))) (sRet (eC .non)) (sMut 6 (eTup (aCons (eVar 7) (aCons (eIdx (eVar 5) (eBin ixM (eVar 4) (eVar 8))) aNil))) apF)))) (row.map D.int) [some (.dat (.tup (ts.map trD))), some (.dat v1), x2, x3, some (.dat (.lst ((asksF 0 ts).map D.int))), some (.dat (.lst (kept.map D.int))), some (.lst (found.map trD)), x7, x8] π = .ret (.dat .non) ρ' π)
  | [], found, x2, x7, x8, x3, _, _ => ⟨fun us h => by
      cases h
      rw [List.append_nil]
      exact ⟨_, _, _, rfl⟩, fun h => by cases h⟩
  | k :: row, found, x2, x7, x8, x3, hr, hl => by
    rw [List.length_cons] at hl
    obtain ⟨t, ht⟩ := in_row (hr k List.mem_cons_self)
    have at1 : atI (ts.map trD) k = some (trD t) := by rw [atI_map, ht]; rfl
    have hfl : (found.map trD).length < most := by rw [List.length_map]; omega
    have hs : ∀ t', stepK ts kept k = some t' → ∃ b c, (sSeq (sAsg (gT 2 (gCons_ (gN 7) (gCons_ (gN 8) gNil_))) (eBin ixM (eVar 0) (eVar 2))) (sIf (eT (eBin eqM (eVar 7) (eC (.str "ask")))) (sMut 6 (eBin ixM (eVar 0) (eVar 2)) apF) (sIf (eT (eBin (inM true) (eBin ixM (eVar 4) (eVar 8)) (eVar 5))) (sRet (eC .non)) (sMut 6 (eTup (aCons (eVar 7) (aCons (eIdx (eVar 5) (eBin ixM (eVar 4) (eVar 8))) aNil))) apF)))) [some (.dat (.tup (ts.map trD))), some (.dat v1), some (.dat (.int k)), x3, some (.dat (.lst ((asksF 0 ts).map D.int))), some (.dat (.lst (kept.map D.int))), some (.lst (found.map trD)), x7, x8] π = .nx [some (.dat (.tup (ts.map trD))), some (.dat v1), some (.dat (.int k)), x3, some (.dat (.lst ((asksF 0 ts).map D.int))), some (.dat (.lst (kept.map D.int))), some (.lst ((found ++ [t']).map trD)), b, c] π := fun t' h => by
      unfold stepK at h
      rw [ht] at h
      rw [List.map_append]
      cases t with
      | ask n =>
        cases h
        have e : [Turn.ask n].map trD = [.tup [.str "ask", .int n]] := rfl
        rw [e]
        generalize (asksF 0 ts).map D.int = A0 at *
        generalize ts.map trD = T0 at *
        generalize found.map trD = F0 at *
        generalize kept.map D.int = K0 at *
        exact ⟨some (.dat (.str "ask")), some (.dat (.int n)), by simp [at1, trD, e_ask_ask, apF, hfl]⟩
      | lets j =>
        obtain ⟨a, e1, e2⟩ := Option.bind_eq_some_iff.mp h
        obtain ⟨i, e3, e4⟩ := Option.map_eq_some_iff.mp e2
        cases e4
        have a2 : atI ((asksF 0 ts).map D.int) j = some (.int a) := by rw [atI_map, e1]; rfl
        have n1 := notin_ints kept a
        have ia := in_kept kept a
        rw [e3] at ia
        rw [← ia] at n1
        have i1 : ∀ π, indexL (kept.map D.int) (.int a) π = .ok (.int (i : Nat)) π := fun π => indexL_ints e3
        have e : [Turn.lets (i : Nat)].map trD = [.tup [.str "let", .int (i : Nat)]] := rfl
        rw [e]
        generalize (asksF 0 ts).map D.int = A0 at *
        generalize ts.map trD = T0 at *
        generalize found.map trD = F0 at *
        generalize kept.map D.int = K0 at *
        exact ⟨some (.dat (.str "let")), some (.dat (.int j)), by simp [at1, trD, e_let_ask, apF, hfl, a2, n1, i1]⟩
    have hn : stepK ts kept k = none → ∃ ρ', (sSeq (sAsg (gT 2 (gCons_ (gN 7) (gCons_ (gN 8) gNil_))) (eBin ixM (eVar 0) (eVar 2))) (sIf (eT (eBin eqM (eVar 7) (eC (.str "ask")))) (sMut 6 (eBin ixM (eVar 0) (eVar 2)) apF) (sIf (eT (eBin (inM true) (eBin ixM (eVar 4) (eVar 8)) (eVar 5))) (sRet (eC .non)) (sMut 6 (eTup (aCons (eVar 7) (aCons (eIdx (eVar 5) (eBin ixM (eVar 4) (eVar 8))) aNil))) apF)))) [some (.dat (.tup (ts.map trD))), some (.dat v1), some (.dat (.int k)), x3, some (.dat (.lst ((asksF 0 ts).map D.int))), some (.dat (.lst (kept.map D.int))), some (.lst (found.map trD)), x7, x8] π = .ret (.dat .non) ρ' π := fun h => by
      unfold stepK at h
      rw [ht] at h
      cases t with
      | ask n => cases h
      | lets j =>
        obtain ⟨a, e1⟩ := let_ask hw ht
        have h : (atI (asksF 0 ts) j).bind _ = none := h
        rw [e1] at h
        have e3 : (kept.findIdx? fun z => decide (z = a)) = none := by
          cases hf : kept.findIdx? fun z => decide (z = a) with
          | none => rfl
          | some i =>
            have h : (kept.findIdx? fun z => decide (z = a)).map _ = none := h
            rw [hf] at h
            cases h
        have a2 : atI ((asksF 0 ts).map D.int) j = some (.int a) := by rw [atI_map, e1]; rfl
        have n1 := notin_ints kept a
        have ia := in_kept kept a
        rw [e3] at ia
        rw [← ia] at n1
        generalize (asksF 0 ts).map D.int = A0 at *
        generalize ts.map trD = T0 at *
        generalize found.map trD = F0 at *
        generalize kept.map D.int = K0 at *
        exact ⟨_, by simp [at1, trD, e_let_ask, a2, n1]; rfl⟩
    refine ⟨fun us h => ?_, fun h => ?_⟩
    · rw [goK] at h
      cases hk : stepK ts kept k with
      | none => rw [hk] at h; cases h
      | some t' =>
        rw [hk] at h
        obtain ⟨vs, e1, e2⟩ := Option.map_eq_some_iff.mp h
        subst e2
        obtain ⟨b, c, e3⟩ := hs t' hk
        obtain ⟨p1, _⟩ := kept_go hw kept v1 π row (found ++ [t']) (some (.dat (.int k))) b c x3 (fun z hz => hr z (List.mem_cons_of_mem _ hz)) (by rw [List.length_append]; simp; omega)
        obtain ⟨a', b', c', e4⟩ := p1 vs e1
        refine ⟨a', b', c', ?_⟩
        rw [List.map_cons, for_cons rfl e3, e4, List.append_assoc]
        rfl
    · rw [goK] at h
      cases hk : stepK ts kept k with
      | none =>
        obtain ⟨ρ', e⟩ := hn hk
        exact ⟨ρ', by rw [List.map_cons, for_ret rfl e]⟩
      | some t' =>
        rw [hk] at h
        have h1 : goK ts kept row = none := by
          cases hg : goK ts kept row with
          | none => rfl
          | some vs => rw [hg] at h; cases h
        obtain ⟨b, c, e3⟩ := hs t' hk
        obtain ⟨_, p2⟩ := kept_go hw kept v1 π row (found ++ [t']) (some (.dat (.int k))) b c x3 (fun z hz => hr z (List.mem_cons_of_mem _ hz)) (by rw [List.length_append]; simp; omega)
        obtain ⟨ρ', e4⟩ := p2 h1
        exact ⟨ρ', by rw [List.map_cons, for_cons rfl e3, e4]⟩
end G_k12

namespace G_k12
open PySem PySem.Spec PyProof.Rows L2 LamX DL
theorem goK_len {ts : List Turn} {kept : List Int} : ∀ (row : List Int) (us : List Turn), goK ts kept row = some us → us.length = row.length
  | [], us, h => by cases h; rfl
  | k :: r, us, h => by
    rw [goK] at h
    cases hk : stepK ts kept k with
    | none => rw [hk] at h; cases h
    | some t =>
      rw [hk] at h
      obtain ⟨vs, e1, e2⟩ := Option.map_eq_some_iff.mp h
      subst e2
      rw [List.length_cons, List.length_cons, goK_len r vs e1]
theorem enu_eq (xs : List D) : enu xs = (xs.zipIdx 0).map fun p => D.tup [.int (p.2 : Int), p.1] := rfl
theorem at_isA {ts : List Turn} {k : Int} (h : 0 ≤ k ∧ k < ts.length) : ∃ t, atI (ts.map trD) k = some (trD t) ∧ isAI ts k = isAT t := by
  obtain ⟨t, ht⟩ := in_row h
  refine ⟨t, by rw [atI_map, ht]; rfl, ?_⟩
  unfold isAI
  rw [ht]
  cases t <;> rfl
theorem tr_kind (t : Turn) : ∃ b, (match t with
    | .ask _ => D.str "ask"
    | .lets _ => D.str "let") = b ∧ eqB b (.str "ask") = some (isAT t) := ⟨_, rfl, by cases t with
  | ask n => exact e_ask_ask
  | lets j => exact e_let_ask⟩
theorem tr_at0 (t : Turn) : ∃ b c, trD t = .tup [b, c] ∧ eqB b (.str "ask") = some (isAT t) := by
  cases t with
  | ask n => exact ⟨_, _, rfl, e_ask_ask⟩
  | lets j => exact ⟨_, _, rfl, e_let_ask⟩
theorem kept_steps_ok {ts : List Turn} (hw : wfB 0 ts = true) (hl : ts.length ≤ 100) {row : List Int} (hr : ∀ k ∈ row, 0 ≤ k ∧ k < ts.length) (hrl : row.length ≤ 100) {d : D} (hd : d = .tup (row.map D.int) ∨ d = .lst (row.map D.int)) (π : Rt) : R_kept_steps [.tup (ts.map trD), d] π = .ok (.dat (keptD (keptF ts row))) π := by
  have hm : most = 1000000 := rfl
  have htm : (ts.map trD).length ≤ most := by rw [List.length_map]; omega
  have hrm : (row.map D.int).length ≤ most := by rw [List.length_map]; omega
  have hem : (enu (ts.map trD)).length ≤ most := by rw [enu_eq, List.length_map, List.length_zipIdx]; exact htm
  have c1 : compGo (gT 2 (gCons_ (gN 2) (gCons_ (gN 3) gNil_))) (eT (eBin eqM (eBin ixM (eVar 3) (eC (.int 0))) (eC (.str "ask")))) (eVar 2) [some (.dat (.tup (ts.map trD))), some (.dat d), none, none, none, none, none, none, none] (enu (ts.map trD)) π = .ok ((asksF 0 ts).map D.int) π := by
    rw [enu_eq]
    have := asks_enu (gT 2 (gCons_ (gN 2) (gCons_ (gN 3) gNil_))) (eT (eBin eqM (eBin ixM (eVar 3) (eC (.int 0))) (eC (.str "ask")))) (eVar 2) [some (.dat (.tup (ts.map trD))), some (.dat d), none, none, none, none, none, none, none] π (fun k z => by
      obtain ⟨b, c, e1, e2⟩ := tr_at0 z
      have a0 : atI [b, c] 0 = some b := rfl
      refine ⟨_, rfl, ?_, rfl⟩
      rw [e1]
      simp [a0, e2]) ts 0
    simpa using this
  have c2 : ∀ A0 : D, compGo (gN 2) (eT (eBin eqM (eBin ixM (eBin ixM (eVar 0) (eVar 2)) (eC (.int 0))) (eC (.str "ask")))) (eVar 2) [some (.dat (.tup (ts.map trD))), some (.dat d), none, none, some (.dat A0), none, none, none, none] (row.map D.int) π = .ok ((row.filter (isAI ts)).map D.int) π := fun A0 => ints_filter (isAI ts) _ _ _ _ π row fun k hk => by
    obtain ⟨t, a1, a2⟩ := at_isA (hr k hk)
    obtain ⟨b, c, e1, e2⟩ := tr_at0 t
    have a0 : atI [b, c] 0 = some b := rfl
    refine ⟨_, rfl, ?_, rfl⟩
    rw [a2]
    rw [e1] at a1
    simp [a1, a0, e2]
  obtain ⟨p1, p2⟩ := kept_go hw (row.filter (isAI ts)) d π row [] none none none none hr (by simp; omega)
  rw [R_kept_steps, run_eq [some (.dat (.tup (ts.map trD))), some (.dat d), none, none, none, none, none, none, none] rfl]
  unfold W_kept_steps
  have c2 := c2 (.lst ((asksF 0 ts).map D.int))
  have hit : ∀ π, itemsM d π = .ok (row.map D.int) π := fun π => by rcases hd with rfl | rfl <;> rfl
  refine step_nx (P := fun o => outB o = .ok (.dat (keptD (keptF ts row))) π) (ρ1 := [some (.dat (.tup (ts.map trD))), some (.dat d), none, none, some (.dat (.lst ((asksF 0 ts).map D.int))), none, none, none, none]) (π1 := π) (by simp [hem, c1]) ?_
  refine step_nx (P := fun o => outB o = .ok (.dat (keptD (keptF ts row))) π) (ρ1 := [some (.dat (.tup (ts.map trD))), some (.dat d), none, none, some (.dat (.lst ((asksF 0 ts).map D.int))), some (.dat (.lst ((row.filter (isAI ts)).map D.int))), none, none, none]) (π1 := π) ?_ ?_
  · generalize (asksF 0 ts).map D.int = A0 at *
    generalize (row.filter (isAI ts)).map D.int = K0 at *
    generalize row.map D.int = R0 at *
    simp [hrm, c2, hit]
  refine step_nx (P := fun o => outB o = .ok (.dat (keptD (keptF ts row))) π) (ρ1 := [some (.dat (.tup (ts.map trD))), some (.dat d), none, none, some (.dat (.lst ((asksF 0 ts).map D.int))), some (.dat (.lst ((row.filter (isAI ts)).map D.int))), some (.lst (([] : List Turn).map trD)), none, none]) (π1 := π) (by simp) ?_
  rw [for_seq (ds := row.map D.int) (π1 := π) (by simp [hit])]
  unfold keptF
  cases hk : goK ts (row.filter (isAI ts)) row with
  | none =>
    obtain ⟨ρ', e⟩ := p2 hk
    rw [e]
    simp [keptD]
  | some us =>
    obtain ⟨a, b, c, e⟩ := p1 us hk
    rw [e, List.nil_append]
    have hul : us.length ≤ row.length := by
      exact Nat.le_of_eq (goK_len _ _ hk)
    have ek : keptD (some us) = .tup (us.map trD) := rfl
    rw [ek]
    have hum : (us.map trD).length ≤ most := by rw [List.length_map]; omega
    generalize us.map trD = U0 at *
    simp [hum]
abbrev leftW : SM := (sSeq (sAsg (gT 2 (gCons_ (gN 6) (gCons_ (gN 7) gNil_))) (eBin ixM (eVar 0) (eVar 2))) (sSeq (sIf (eT (eBin eqM (eVar 6) (eC (.str "let")))) (sSeq (sIf (eT (eBin (inM true) (eBin ixM (eVar 3) (eVar 7)) (eVar 4))) (sRet (eC .non)) sNop) (sSet 7 (eIdx (eVar 4) (eBin ixM (eVar 3) (eVar 7))))) sNop) (sMut 5 (eTup (aCons (eVar 6) (aCons (eVar 7) aNil))) apF)))
theorem left_go {ts : List Turn} (hw : wfB 0 ts = true) (kept : List Int) (v1 : D) (π : Rt) : ∀ (row : List Int) (found : List Turn) (x2 x6 x7 : Option SV), (∀ k ∈ row, 0 ≤ k ∧ k < ts.length) → found.length + row.length < most →
    (∀ us, goK ts kept row = some us → ∃ a b c, forGo (gN 2) leftW (row.map D.int) [some (.dat (.tup (ts.map trD))), some (.dat v1), x2, some (.dat (.lst ((asksF 0 ts).map D.int))), some (.dat (.lst (kept.map D.int))), some (.lst (found.map trD)), x6, x7] π = .nx [some (.dat (.tup (ts.map trD))), some (.dat v1), a, some (.dat (.lst ((asksF 0 ts).map D.int))), some (.dat (.lst (kept.map D.int))), some (.lst ((found ++ us).map trD)), b, c] π) ∧
    (goK ts kept row = none → ∃ ρ', forGo (gN 2) leftW (row.map D.int) [some (.dat (.tup (ts.map trD))), some (.dat v1), x2, some (.dat (.lst ((asksF 0 ts).map D.int))), some (.dat (.lst (kept.map D.int))), some (.lst (found.map trD)), x6, x7] π = .ret (.dat .non) ρ' π)
  | [], found, x2, x6, x7, _, _ => ⟨fun us h => by
      cases h
      rw [List.append_nil]
      exact ⟨_, _, _, rfl⟩, fun h => by cases h⟩
  | k :: row, found, x2, x6, x7, hr, hl => by
    rw [List.length_cons] at hl
    obtain ⟨t, ht⟩ := in_row (hr k List.mem_cons_self)
    have at1 : atI (ts.map trD) k = some (trD t) := by rw [atI_map, ht]; rfl
    have hfl : (found.map trD).length < most := by rw [List.length_map]; omega
    have hs : ∀ t', stepK ts kept k = some t' → ∃ b c, leftW [some (.dat (.tup (ts.map trD))), some (.dat v1), some (.dat (.int k)), some (.dat (.lst ((asksF 0 ts).map D.int))), some (.dat (.lst (kept.map D.int))), some (.lst (found.map trD)), x6, x7] π = .nx [some (.dat (.tup (ts.map trD))), some (.dat v1), some (.dat (.int k)), some (.dat (.lst ((asksF 0 ts).map D.int))), some (.dat (.lst (kept.map D.int))), some (.lst ((found ++ [t']).map trD)), b, c] π := fun t' h => by
      unfold stepK at h
      rw [ht] at h
      rw [List.map_append]
      cases t with
      | ask n =>
        cases h
        have e : [Turn.ask n].map trD = [.tup [.str "ask", .int n]] := rfl
        rw [e]
        generalize (asksF 0 ts).map D.int = A0 at *
        generalize ts.map trD = T0 at *
        generalize found.map trD = F0 at *
        generalize kept.map D.int = K0 at *
        exact ⟨some (.dat (.str "ask")), some (.dat (.int n)), by simp [at1, trD, e_ask_let, apF, hfl]⟩
      | lets j =>
        obtain ⟨a, e1, e2⟩ := Option.bind_eq_some_iff.mp h
        obtain ⟨i, e3, e4⟩ := Option.map_eq_some_iff.mp e2
        cases e4
        have a2 : atI ((asksF 0 ts).map D.int) j = some (.int a) := by rw [atI_map, e1]; rfl
        have n1 := notin_ints kept a
        have ia := in_kept kept a
        rw [e3] at ia
        rw [← ia] at n1
        have i1 : ∀ π, indexL (kept.map D.int) (.int a) π = .ok (.int (i : Nat)) π := fun π => indexL_ints e3
        have e : [Turn.lets (i : Nat)].map trD = [.tup [.str "let", .int (i : Nat)]] := rfl
        rw [e]
        generalize (asksF 0 ts).map D.int = A0 at *
        generalize ts.map trD = T0 at *
        generalize found.map trD = F0 at *
        generalize kept.map D.int = K0 at *
        exact ⟨some (.dat (.str "let")), some (.dat (.int (i : Nat))), by simp [at1, trD, e_let_let, apF, hfl, a2, n1, i1]⟩
    have hn : stepK ts kept k = none → ∃ ρ', leftW [some (.dat (.tup (ts.map trD))), some (.dat v1), some (.dat (.int k)), some (.dat (.lst ((asksF 0 ts).map D.int))), some (.dat (.lst (kept.map D.int))), some (.lst (found.map trD)), x6, x7] π = .ret (.dat .non) ρ' π := fun h => by
      unfold stepK at h
      rw [ht] at h
      cases t with
      | ask n => cases h
      | lets j =>
        obtain ⟨a, e1⟩ := let_ask hw ht
        have h : (atI (asksF 0 ts) j).bind _ = none := h
        rw [e1] at h
        have e3 : (kept.findIdx? fun z => decide (z = a)) = none := by
          cases hf : kept.findIdx? fun z => decide (z = a) with
          | none => rfl
          | some i =>
            have h : (kept.findIdx? fun z => decide (z = a)).map _ = none := h
            rw [hf] at h
            cases h
        have a2 : atI ((asksF 0 ts).map D.int) j = some (.int a) := by rw [atI_map, e1]; rfl
        have n1 := notin_ints kept a
        have ia := in_kept kept a
        rw [e3] at ia
        rw [← ia] at n1
        generalize (asksF 0 ts).map D.int = A0 at *
        generalize ts.map trD = T0 at *
        generalize found.map trD = F0 at *
        generalize kept.map D.int = K0 at *
        exact ⟨_, by simp [at1, trD, e_let_let, a2, n1]; rfl⟩
    refine ⟨fun us h => ?_, fun h => ?_⟩
    · rw [goK] at h
      cases hk : stepK ts kept k with
      | none => rw [hk] at h; cases h
      | some t' =>
        rw [hk] at h
        obtain ⟨vs, e1, e2⟩ := Option.map_eq_some_iff.mp h
        subst e2
        obtain ⟨b, c, e3⟩ := hs t' hk
        obtain ⟨p1, _⟩ := left_go hw kept v1 π row (found ++ [t']) (some (.dat (.int k))) b c (fun z hz => hr z (List.mem_cons_of_mem _ hz)) (by rw [List.length_append]; simp; omega)
        obtain ⟨a', b', c', e4⟩ := p1 vs e1
        refine ⟨a', b', c', ?_⟩
        rw [List.map_cons, for_cons rfl e3, e4, List.append_assoc]
        rfl
    · rw [goK] at h
      cases hk : stepK ts kept k with
      | none =>
        obtain ⟨ρ', e⟩ := hn hk
        exact ⟨ρ', by rw [List.map_cons, for_ret rfl e]⟩
      | some t' =>
        rw [hk] at h
        have h1 : goK ts kept row = none := by
          cases hg : goK ts kept row with
          | none => rfl
          | some vs => rw [hg] at h; cases h
        obtain ⟨b, c, e3⟩ := hs t' hk
        obtain ⟨_, p2⟩ := left_go hw kept v1 π row (found ++ [t']) (some (.dat (.int k))) b c (fun z hz => hr z (List.mem_cons_of_mem _ hz)) (by rw [List.length_append]; simp; omega)
        obtain ⟨ρ', e4⟩ := p2 h1
        exact ⟨ρ', by rw [List.map_cons, for_cons rfl e3, e4]⟩
theorem law_left_ok {ts : List Turn} (hw : wfB 0 ts = true) (hl : ts.length ≤ 100) {row : List Int} (hr : ∀ k ∈ row, 0 ≤ k ∧ k < ts.length) (hrl : row.length ≤ 100) {d : D} (hd : d = .tup (row.map D.int) ∨ d = .lst (row.map D.int)) (π : Rt) : R__law_left [.tup (ts.map trD), d] π = .ok (.dat (keptD (keptF ts row))) π := by
  have hm : most = 1000000 := rfl
  have hrm : (row.map D.int).length ≤ most := by rw [List.length_map]; omega
  have htl : (ts.map trD).length = ts.length := List.length_map ..
  have hr1 := rng1_ok (n := ts.length) (by omega)
  have hrg : (rng 0 ts.length).length ≤ most := by rw [rng_len]; omega
  have c1 : compGo (gN 2) (eT (eBin eqM (eBin ixM (eBin ixM (eVar 0) (eVar 2)) (eC (.int 0))) (eC (.str "ask")))) (eVar 2) [some (.dat (.tup (ts.map trD))), some (.dat d), none, none, none, none, none, none] (rng 0 ts.length) π = .ok ((asksF 0 ts).map D.int) π := by
    rw [rng_ups]
    have := asks_rng ts (gN 2) (eT (eBin eqM (eBin ixM (eBin ixM (eVar 0) (eVar 2)) (eC (.int 0))) (eC (.str "ask")))) (eVar 2) [some (.dat (.tup (ts.map trD))), some (.dat d), none, none, none, none, none, none] π (fun k z hz => by
      obtain ⟨b, c, e1, e2⟩ := tr_at0 z
      have a0 : atI [b, c] 0 = some b := rfl
      have hk : (0 : Int) ≤ (k : Nat) ∧ ((k : Nat) : Int).toNat < ts.length := ⟨by omega, by have := (List.getElem?_eq_some_iff.mp hz).1; omega⟩
      have a1 : atI (ts.map trD) (k : Nat) = some (.tup [b, c]) := by
        rw [atI_map, atI_get hk.1 hk.2]
        have : ts[((k : Nat) : Int).toNat] = z := (List.getElem?_eq_some_iff.mp hz).2
        rw [this, ← e1]
        rfl
      refine ⟨_, rfl, ?_, rfl⟩
      simp [a1, a0, e2]) ts 0 (fun j z h => by rw [Nat.zero_add]; exact h)
    exact this
  have c2 : compGo (gN 2) (eT (eBin eqM (eBin ixM (eBin ixM (eVar 0) (eVar 2)) (eC (.int 0))) (eC (.str "ask")))) (eVar 2) [some (.dat (.tup (ts.map trD))), some (.dat d), none, some (.dat (.lst ((asksF 0 ts).map D.int))), none, none, none, none] (row.map D.int) π = .ok ((row.filter (isAI ts)).map D.int) π := ints_filter (isAI ts) _ _ _ _ π row fun k hk => by
    obtain ⟨t, a1, a2⟩ := at_isA (hr k hk)
    obtain ⟨b, c, e1, e2⟩ := tr_at0 t
    have a0 : atI [b, c] 0 = some b := rfl
    refine ⟨_, rfl, ?_, rfl⟩
    rw [a2]
    rw [e1] at a1
    simp [a1, a0, e2]
  obtain ⟨p1, p2⟩ := left_go hw (row.filter (isAI ts)) d π row [] none none none hr (by simp; omega)
  rw [R__law_left, run_eq [some (.dat (.tup (ts.map trD))), some (.dat d), none, none, none, none, none, none] rfl]
  unfold W__law_left
  have hit : ∀ π, itemsM d π = .ok (row.map D.int) π := fun π => by rcases hd with rfl | rfl <;> rfl
  refine step_nx (P := fun o => outB o = .ok (.dat (keptD (keptF ts row))) π) (ρ1 := [some (.dat (.tup (ts.map trD))), some (.dat d), none, some (.dat (.lst ((asksF 0 ts).map D.int))), none, none, none, none]) (π1 := π) (by simp [htl, hr1, hrg, c1]) ?_
  refine step_nx (P := fun o => outB o = .ok (.dat (keptD (keptF ts row))) π) (ρ1 := [some (.dat (.tup (ts.map trD))), some (.dat d), none, some (.dat (.lst ((asksF 0 ts).map D.int))), some (.dat (.lst ((row.filter (isAI ts)).map D.int))), some (.lst []), none, none]) (π1 := π) ?_ ?_
  · generalize (asksF 0 ts).map D.int = A0 at *
    generalize (row.filter (isAI ts)).map D.int = K0 at *
    generalize row.map D.int = R0 at *
    simp [hrm, c2, hit]
  rw [for_seq (ds := row.map D.int) (π1 := π) (by simp [hit])]
  unfold keptF
  cases hk : goK ts (row.filter (isAI ts)) row with
  | none =>
    obtain ⟨ρ', e⟩ := p2 hk
    rw [show forGo _ _ (row.map D.int) [some (.dat (.tup (ts.map trD))), some (.dat d), none, some (.dat (.lst ((asksF 0 ts).map D.int))), some (.dat (.lst ((row.filter (isAI ts)).map D.int))), some (.lst []), none, none] π = _ from e]
    simp [keptD]
  | some us =>
    obtain ⟨a, b, c, e⟩ := p1 us hk
    rw [show forGo _ _ (row.map D.int) [some (.dat (.tup (ts.map trD))), some (.dat d), none, some (.dat (.lst ((asksF 0 ts).map D.int))), some (.dat (.lst ((row.filter (isAI ts)).map D.int))), some (.lst []), none, none] π = _ from e, List.nil_append]
    have hul : us.length ≤ row.length := Nat.le_of_eq (goK_len _ _ hk)
    have ek : keptD (some us) = .tup (us.map trD) := rfl
    rw [ek]
    have hum : (us.map trD).length ≤ most := by rw [List.length_map]; omega
    generalize us.map trD = U0 at *
    simp [hum]
end G_k12

namespace G_k12
open PySem PySem.Spec PyProof.Rows L2 LamX DL
theorem asksF_app : ∀ (xs ys : List Turn) (i : Int), asksF i (xs ++ ys) = asksF i xs ++ asksF (i + xs.length) ys
  | [], ys, i => by simp [asksF]
  | .ask n :: xs, ys, i => by
    rw [List.cons_append, asksF, asksF, asksF_app xs, List.length_cons, List.cons_append, show i + 1 + (xs.length : Int) = i + ((xs.length + 1 : Nat) : Int) by omega]
  | .lets n :: xs, ys, i => by
    rw [List.cons_append, asksF, asksF, asksF_app xs, List.length_cons, show i + 1 + (xs.length : Int) = i + ((xs.length + 1 : Nat) : Int) by omega]
theorem asksF_mem : ∀ (xs : List Turn) (i a : Int), a ∈ asksF i xs → i ≤ a ∧ a < i + xs.length
  | [], i, a, h => by simp [asksF] at h
  | .ask n :: xs, i, a, h => by
    rw [asksF] at h
    rw [List.length_cons]
    rcases List.mem_cons.mp h with rfl | h
    · omega
    · have := asksF_mem xs (i + 1) a h
      omega
  | .lets n :: xs, i, a, h => by
    rw [asksF] at h
    rw [List.length_cons]
    have := asksF_mem xs (i + 1) a h
    omega
theorem ask_before {ts : List Turn} (hw : wfB 0 ts = true) {k j a : Int} (h0 : 0 ≤ k) (h : atI ts k = some (.lets j)) (ha : atI (asksF 0 ts) j = some a) : a < k := by
  obtain ⟨i, e1, e2⟩ := Option.bind_eq_some_iff.mp (show (ixN ts.length k).bind (fun j => ts[j]?) = _ from h)
  obtain ⟨hi, e3⟩ := List.getElem?_eq_some_iff.mp e2
  have hik : (i : Int) = k := by
    unfold ixN at e1
    rw [if_pos h0] at e1
    split at e1
    · cases e1; omega
    · cases e1
  have e4 : ts = ts.take i ++ .lets j :: ts.drop (i + 1) := by
    rw [← e3]
    simp
  have ok := wf_at (ts.take i) 0 (.lets j) (ts.drop (i + 1)) (by rw [← e4]; exact hw)
  have ok : 0 ≤ j ∧ j < (0 + askC (ts.take i) : Nat) := ok
  have hl := asksF_len (ts.take i) 0
  have e5 : asksF 0 ts = asksF 0 (ts.take i) ++ asksF (0 + (ts.take i).length) (.lets j :: ts.drop (i + 1)) := by
    have := asksF_app (ts.take i) (.lets j :: ts.drop (i + 1)) 0
    rwa [← e4] at this
  rw [e5, atI_get ok.1 (by rw [List.length_append]; omega)] at ha
  have ha := Option.some.inj ha
  rw [List.getElem_append_left (by omega)] at ha
  have hm : a ∈ asksF 0 (ts.take i) := by rw [← ha]; exact List.getElem_mem _
  have := asksF_mem _ _ _ hm
  have : (ts.take i).length ≤ i := List.length_take_le _ _
  omega
theorem goK_wf {ts : List Turn} (hw : wfB 0 ts = true) (row : List Int) (hr : ∀ k ∈ row, 0 ≤ k ∧ k < ts.length) (hs : row.Pairwise (· < ·)) : ∀ (suf pre : List Int) (us : List Turn), row = pre ++ suf → goK ts (row.filter (isAI ts)) suf = some us → wfB (pre.filter (isAI ts)).length us = true
  | [], pre, us, _, h => by cases h; rfl
  | k :: suf, pre, us, e, h => by
    rw [goK] at h
    cases hk : stepK ts (row.filter (isAI ts)) k with
    | none => rw [hk] at h; cases h
    | some t =>
      rw [hk] at h
      obtain ⟨vs, e1, e2⟩ := Option.map_eq_some_iff.mp h
      subst e2
      have ih := goK_wf hw row hr hs suf (pre ++ [k]) vs (by rw [e]; simp) e1
      have hkr : 0 ≤ k ∧ k < ts.length := hr k (by rw [e]; simp)
      obtain ⟨z, hz⟩ := in_row hkr
      unfold stepK at hk
      rw [hz] at hk
      rw [List.filter_append] at ih
      cases z with
      | ask n =>
        cases hk
        have e3 : [k].filter (isAI ts) = [k] := by
          rw [List.filter_cons, if_pos (by unfold isAI; rw [hz])]
          rfl
        rw [e3, List.length_append] at ih
        rw [wfB]
        have okn : 1 ≤ n ∧ n ≤ 24 := wf_pos ts 0 hw (.ask n) (by
          obtain ⟨i, e1, e2⟩ := Option.bind_eq_some_iff.mp (show (ixN ts.length k).bind (fun j => ts[j]?) = _ from hz)
          exact List.mem_of_getElem? e2)
        rw [decide_eq_true okn, Bool.true_and]
        exact ih
      | lets j =>
        obtain ⟨a, e4, e5⟩ := Option.bind_eq_some_iff.mp hk
        obtain ⟨i, e6, e7⟩ := Option.map_eq_some_iff.mp e5
        cases e7
        have e3 : [k].filter (isAI ts) = [] := by
          rw [List.filter_cons, if_neg (by unfold isAI; rw [hz]; exact fun z => by cases z)]
          rfl
        rw [e3, List.append_nil] at ih
        rw [wfB, ih, Bool.and_true]
        rw [decide_eq_true_eq]
        refine ⟨by omega, ?_⟩
        have hak := ask_before hw hkr.1 hz e4
        obtain ⟨h1, h2, _⟩ := List.findIdx?_eq_some_iff_getElem.mp e6
        have h2 : (row.filter (isAI ts))[i] = a := of_decide_eq_true h2
        apply Classical.byContradiction
        intro hc
        have hsplit : row.filter (isAI ts) = pre.filter (isAI ts) ++ (k :: suf).filter (isAI ts) := by rw [e, List.filter_append]
        have hge : (pre.filter (isAI ts)).length ≤ i := by omega
        have hm : a ∈ (k :: suf).filter (isAI ts) := by
          have h3 : (row.filter (isAI ts))[i]? = some a := by rw [List.getElem?_eq_getElem h1, h2]
          rw [hsplit, List.getElem?_append_right hge] at h3
          exact List.mem_of_getElem? h3
        have hm := (List.mem_filter.mp hm).1
        rw [e] at hs
        have hs2 := (List.pairwise_append.mp hs).2.1
        rcases List.mem_cons.mp hm with q | q
        · omega
        · have := (List.pairwise_cons.mp hs2).1 a q
          omega
theorem kept_wf {ts : List Turn} (hw : wfB 0 ts = true) {row : List Int} (hr : ∀ k ∈ row, 0 ≤ k ∧ k < ts.length) (hs : row.Pairwise (· < ·)) {us : List Turn} (h : keptF ts row = some us) : wfB 0 us = true ∧ us.length = row.length := ⟨goK_wf hw row hr hs row [] us rfl h, goK_len _ _ h⟩
end G_k12

namespace G_k12
open PySem PySem.Spec PyProof.Rows L2 LamX DL
/-! rows of numbers, the shorter ones first -/
def rowD (row : List Int) : D := .tup (row.map D.int)
def startR (row : List Int) : Int := match row.getLast? with
  | some a => a + 1
  | none => 0
def extR (n : Nat) (row : List Int) : List (List Int) := (ups (startR row) ((n : Int) - startR row).toNat).map fun k => row ++ [k]
def lv (n : Nat) : Nat → List (List Int)
  | 0 => [[]]
  | k + 1 => (lv n k).flatMap (extR n)
def allLv (n : Nat) : List (List Int) := (List.range (n + 1)).flatMap (lv n)
def dblR (m : Nat) (f : List (List Int)) (i : Int) : List (List Int) := f ++ (f.filter fun row => decide (row.length < m)).map fun row => row ++ [i]
def dblA (n : Nat) : List (List Int) := (ups 0 n).foldl (dblR n) [[]]
def prD (row : List Int) : D := .tup [.int row.length, rowD row]
theorem rows_facts : ∀ n ∈ [1, 2, 3, 4, 5, 6], (sortOk ((dblA n).map prD) && (allLv n).isPerm (dblA n) && decide (((allLv n).map prD).Pairwise fun a b => leX b a = false) && decide ((dblA n).length ≤ 64)) = true := by
  decide +kernel
theorem rows_6 {n : Nat} (h1 : 1 ≤ n) (h6 : n ≤ 6) : sortOk ((dblA n).map prD) = true ∧ (allLv n).Perm (dblA n) ∧ (((allLv n).map prD).Pairwise fun a b => leX b a = false) ∧ (dblA n).length ≤ 64 := by
  have := rows_facts n (by
    have : n = 1 ∨ n = 2 ∨ n = 3 ∨ n = 4 ∨ n = 5 ∨ n = 6 := by omega
    rcases this with rfl | rfl | rfl | rfl | rfl | rfl <;> simp)
  rw [Bool.and_eq_true, Bool.and_eq_true, Bool.and_eq_true, decide_eq_true_eq, decide_eq_true_eq] at this
  exact ⟨this.1.1.1, List.isPerm_iff.mp this.1.1.2, this.1.2, this.2⟩
theorem compGo_mapF {α : Type} {g : GM} {t : Ev → EM Bool} {f : Ev → EM D} {ρ : Ev} {π : Rt} (e : α → D) (p : α → Bool) (h : α → D) : ∀ (xs : List α), (∀ x ∈ xs, ∃ ρ', g (e x) ρ = some ρ' ∧ t ρ' π = .ok (p x) π ∧ (p x = true → f ρ' π = .ok (h x) π)) → compGo g t f ρ (xs.map e) π = .ok ((xs.filter p).map h) π
  | [], _ => rfl
  | x :: r, H => by
    obtain ⟨ρ', h1, h2, h3⟩ := H x List.mem_cons_self
    have ih := compGo_mapF e p h r fun z hz => H z (List.mem_cons_of_mem _ hz)
    rw [List.map_cons]
    unfold compGo
    rw [em_bind, h1]
    show ((noX (t ρ') >>= _) : EM (List D)) π = _
    rw [em_bind, noX_ok h2, List.filter_cons]
    cases hp : p x with
    | true =>
      show ((noX (f ρ') >>= _) : EM (List D)) π = _
      rw [em_bind, noX_ok (h3 hp)]
      show ((compGo g t f ρ _ >>= _) : EM (List D)) π = _
      rw [em_bind, ih]
      rfl
    | false =>
      show compGo g t f ρ _ π = _
      rw [ih]
      rfl
theorem compGo_mapA {α : Type} {g : GM} {f : Ev → EM D} {ρ : Ev} {π : Rt} (e : α → D) (h : α → D) (xs : List α) (H : ∀ x ∈ xs, ∃ ρ', g (e x) ρ = some ρ' ∧ f ρ' π = .ok (h x) π) : compGo g tYes_ f ρ (xs.map e) π = .ok (xs.map h) π := by
  have := compGo_mapF (g := g) (t := tYes_) (f := f) (ρ := ρ) (π := π) e (fun _ => true) h xs fun x hx => by
    obtain ⟨ρ', h1, h2⟩ := H x hx
    exact ⟨ρ', h1, rfl, fun _ => h2⟩
  rwa [show (xs.filter fun _ => true) = xs from List.filter_eq_self.mpr fun _ _ => rfl] at this
theorem dbl_len (n : Nat) : ∀ (is : List Int) (f : List (List Int)), f.length ≤ (is.foldl (dblR n) f).length
  | [], f => Nat.le_refl _
  | i :: is, f => by
    have := dbl_len n is (dblR n f i)
    have h2 : f.length ≤ (dblR n f i).length := by unfold dblR; rw [List.length_append]; omega
    exact Nat.le_trans h2 this
theorem dbl_go {n : Nat} (hn : n ≤ 6) (v0 : D) (x4 x5 : Option SV) (π : Rt) : ∀ (is : List Int) (f : List (List Int)) (x3 : Option SV), (is.foldl (dblR n) f).length ≤ 64 →
    ∃ a b, forGo (gN 3) (sSet 2 (eBin addM (eVar 2) (eFrz (eComp (eItems (eVar 2)) (gN 4) (eT (eBin ltM (eCall lenM (aCons (eVar 4) aNil)) (eVar 1))) (eBin addM (eVar 4) (eTup (aCons (eVar 3) aNil))) [4])))) (is.map D.int) [some (.dat v0), some (.dat (.int n)), some (.dat (.lst (f.map rowD))), x3, none, x5] π = .nx [some (.dat v0), some (.dat (.int n)), some (.dat (.lst ((is.foldl (dblR n) f).map rowD))), a, none, b] π
  | [], f, x3, _ => ⟨_, _, rfl⟩
  | i :: is, f, x3, hl => by
    have hm : most = 1000000 := rfl
    have hl0 := dbl_len n is (dblR n f i)
    have hl1 : (dblR n f i).length ≤ 64 := Nat.le_trans hl0 hl
    have hl2 : f.length ≤ 64 := by unfold dblR at hl1; rw [List.length_append] at hl1; omega
    have hfm : (f.map rowD).length ≤ most := by rw [List.length_map]; omega
    have c1 : compGo (gN 4) (eT (eBin ltM (eCall lenM (aCons (eVar 4) aNil)) (eVar 1))) (eBin addM (eVar 4) (eTup (aCons (eVar 3) aNil))) [some (.dat v0), some (.dat (.int n)), some (.dat (.lst (f.map rowD))), some (.dat (.int i)), none, x5] (f.map rowD) π = .ok ((f.filter fun row => decide (row.length < n)).map fun row => rowD (row ++ [i])) π :=
      compGo_mapF rowD (fun row => decide (row.length < n)) (fun row => rowD (row ++ [i])) f fun row _ => by
        have e1 : (decide ((row.length : Int) < (n : Int))) = decide (row.length < n) := by
          rw [Bool.eq_iff_iff, decide_eq_true_eq, decide_eq_true_eq]
          omega
        refine ⟨_, rfl, ?_, fun hp => ?_⟩
        · rw [← e1]
          simp [rowD]
        · have hp : row.length < n := of_decide_eq_true hp
          have e2 : addM (.tup (row.map D.int)) (.tup [.int i]) π = .ok (rowD (row ++ [i])) π := by
            rw [addT (by rw [List.length_map]; simp; omega)]
            unfold rowD
            rw [List.map_append]
            rfl
          simp [rowD, e2]
    have e3 : addM (.lst (f.map rowD)) (.lst ((f.filter fun row => decide (row.length < n)).map fun row => rowD (row ++ [i]))) π = .ok (.lst ((dblR n f i).map rowD)) π := by
      rw [add_lst]
      · unfold dblR
        rw [List.map_append, List.map_map]
        rfl
      · have := hl1
        unfold dblR at this
        rw [List.length_append, List.length_map] at this
        rw [List.length_map, List.length_map]
        omega
    obtain ⟨a, b, e⟩ := dbl_go hn v0 none x5 π is (dblR n f i) (some (.dat (.int i))) hl
    refine ⟨a, b, ?_⟩
    rw [List.map_cons, for_cons (ρ1 := [some (.dat v0), some (.dat (.int n)), some (.dat (.lst (f.map rowD))), some (.dat (.int i)), none, x5]) (ρ2 := [some (.dat v0), some (.dat (.int n)), some (.dat (.lst ((dblR n f i).map rowD))), some (.dat (.int i)), none, x5]) rfl ?_]
    · exact e
    · generalize (dblR n f i).map rowD = D1 at *
      generalize (f.filter fun row => decide (row.length < n)).map (fun row => rowD (row ++ [i])) = D2 at *
      generalize f.map rowD = D0 at *
      simp [hfm, c1, e3]
theorem law_rows_ok {n : Nat} (h1 : 1 ≤ n) (h6 : n ≤ 6) (π : Rt) : R__law_rows [.lst (rng 0 n), .int n] π = .ok (.lst ((allLv n).map rowD)) π := by
  have hm : most = 1000000 := rfl
  obtain ⟨r1, r2, r3, r4⟩ := rows_6 h1 h6
  have hl : (allLv n).length ≤ 64 := by rw [r2.length_eq]; exact r4
  rw [rng_ups]
  obtain ⟨a, b, e⟩ := dbl_go h6 (.lst ((ups 0 n).map D.int)) none none π (ups 0 n) [[]] none r4
  rw [R__law_rows, run_eq [some (.dat (.lst ((ups 0 n).map D.int))), some (.dat (.int n)), none, none, none, none] rfl]
  unfold W__law_rows
  refine step_nx (P := fun o => outB o = .ok (.lst ((allLv n).map rowD)) π) (ρ1 := [some (.dat (.lst ((ups 0 n).map D.int))), some (.dat (.int n)), some (.dat (.lst (([[]] : List (List Int)).map rowD))), none, none, none]) (π1 := π) (by simp [rowD]) ?_
  rw [for_seq (ds := (ups 0 n).map D.int) (π1 := π) (by simp), e]
  have e0 : (ups 0 n).foldl (dblR n) [[]] = dblA n := rfl
  rw [e0]
  have hdm : ((dblA n).map rowD).length ≤ most := by rw [List.length_map]; omega
  have ham : ((allLv n).map prD).length ≤ most := by rw [List.length_map]; omega
  have c1 : ∀ (x0 : D) (x3 x5 : Option SV), compGo (gN 4) tYes_ (eTup (aCons (eCall lenM (aCons (eVar 4) aNil)) (aCons (eVar 4) aNil))) [some (.dat x0), some (.dat (.int n)), some (.dat (.lst ((dblA n).map rowD))), x3, none, x5] ((dblA n).map rowD) π = .ok ((dblA n).map prD) π := fun x0 x3 x5 => compGo_mapA rowD prD (dblA n) fun row _ => ⟨_, rfl, by simp [rowD, prD]⟩
  obtain ⟨s1, _⟩ := sortXM_ok r1 (r2.map prD) r3 π
  have c2 : ∀ (x0 : D) (x3 : Option SV), compGo (gT 2 (gCons_ (gN 5) (gCons_ (gN 4) gNil_))) tYes_ (eVar 4) [some (.dat x0), some (.dat (.int n)), some (.dat (.lst ((dblA n).map rowD))), x3, none, none] ((allLv n).map prD) π = .ok ((allLv n).map rowD) π := fun x0 x3 => compGo_mapA prD rowD (allLv n) fun row _ => ⟨_, rfl, rfl⟩
  generalize (allLv n).map rowD = A1 at *
  generalize (allLv n).map prD = A2 at *
  generalize (dblA n).map prD = A3 at *
  generalize (dblA n).map rowD = A4 at *
  have hA3 : A3.length ≤ most := by
    have := r1
    unfold sortOk at this
    simp only [Bool.and_eq_true, decide_eq_true_eq] at this
    exact this.1.1.1.1
  simp [hdm, ham, c1, s1, c2]
end G_k12

namespace G_k12
open PySem PySem.Spec PyProof.Rows L2 LamX DL
/-! cores -/
theorem lv_facts : ∀ n ∈ [1, 2, 3, 4, 5, 6], ((allLv n).all (fun row => row.all (fun k => decide (0 ≤ k ∧ k < n)) && decide (row.Pairwise (· < ·)) && decide (row.length ≤ n)) && decide (lv n n = [ups 0 n])) = true := by
  decide +kernel
theorem lv_6 {n : Nat} (h1 : 1 ≤ n) (h6 : n ≤ 6) : (∀ row ∈ allLv n, (∀ k ∈ row, 0 ≤ k ∧ k < (n : Int)) ∧ row.Pairwise (· < ·) ∧ row.length ≤ n) ∧ lv n n = [ups 0 n] := by
  have := lv_facts n (by
    have : n = 1 ∨ n = 2 ∨ n = 3 ∨ n = 4 ∨ n = 5 ∨ n = 6 := by omega
    rcases this with rfl | rfl | rfl | rfl | rfl | rfl <;> simp)
  simp only [Bool.and_eq_true, decide_eq_true_eq, List.all_eq_true] at this
  exact ⟨fun row hr => ⟨(this.1 row hr).1.1, (this.1 row hr).1.2, (this.1 row hr).2⟩, this.2⟩
theorem lv_mem {n k : Nat} (hk : k ≤ n) {row : List Int} (h : row ∈ lv n k) : row ∈ allLv n := List.mem_flatMap.mpr ⟨k, List.mem_range.mpr (by omega), h⟩
theorem lv_len {n k : Nat} (h1 : 1 ≤ n) (h6 : n ≤ 6) (hk : k ≤ n) : (lv n k).length ≤ 64 := by
  obtain ⟨_, r2, _, r4⟩ := rows_6 h1 h6
  have : (allLv n).length ≤ 64 := by rw [r2.length_eq]; exact r4
  obtain ⟨a, b, e⟩ := List.append_of_mem (List.mem_range.mpr (show k < n + 1 by omega))
  unfold allLv at this
  rw [e, List.flatMap_append, List.flatMap_cons, List.length_append, List.length_append] at this
  omega
/-- what is left by a row needs more than the field -/
def badR (r : Rule) (f : Int) (ts : List Turn) (row : List Int) : Bool := match keptF ts row with
  | some us => decide (f < roomS r us)
  | none => false
theorem start_ok (row : List Int) (hl : row.length ≤ 100) (ρ : Ev) (hρ : ρ[5]? = some (some (.dat (rowD row)))) (π : Rt) : eIf (eT (eBin gtM (eCall lenM (aCons (eVar 5) aNil)) (eC (.int 0)))) (eBin addM (eBin ixM (eVar 5) (eUn negM (eC (.int 1)))) (eC (.int 1))) (eC (.int 0)) ρ π = .ok (.int (startR row)) π := by
  rcases List.eq_nil_or_concat row with e | ⟨ys, a, e⟩
  · subst e
    simp [hρ, rowD, startR]
  · rw [List.concat_eq_append] at e
    subst e
    have a1 : atI ((ys ++ [a]).map D.int) (-1) = some (.int a) := by
      rw [List.map_append]
      exact atI_last _ _
    have hp : (0 : Int) < ((ys.length : Int) + 1) := by omega
    have es : startR (ys ++ [a]) = a + 1 := by
      unfold startR
      rw [List.getLast?_concat]
    rw [es]
    unfold rowD at hρ
    rw [List.map_append] at a1 hρ
    simp only [List.map_cons, List.map_nil] at a1 hρ
    have hln : (ys.map D.int ++ [D.int a]).length = ys.length + 1 := by simp
    generalize ys.map D.int ++ [D.int a] = Y at *
    simp [hρ, hln, hp, a1]
theorem ext_go {n : Nat} (hn : n ≤ 6) (v0 v1 : D) (ts : List Turn) (hts : ts.length = n) (x3 x8 : Option SV) (π : Rt) : ∀ (rows acc : List (List Int)) (x5 x6 : Option SV), (∀ row ∈ rows, row.length ≤ 6 ∧ 0 ≤ startR row ∧ startR row ≤ n) → acc.length + (rows.flatMap (extR n)).length ≤ 1000 →
    ∃ a b, forGo (gN 5) (sSeq (sSet 6 (eIf (eT (eBin gtM (eCall lenM (aCons (eVar 5) aNil)) (eC (.int 0)))) (eBin addM (eBin ixM (eVar 5) (eUn negM (eC (.int 1)))) (eC (.int 1))) (eC (.int 0)))) (sMut 4 (eFrz (eComp (eCall rng2M (aCons (eVar 6) (aCons (eCall lenM (aCons (eVar 2) aNil)) aNil))) (gN 7) tYes_ (eBin addM (eVar 5) (eTup (aCons (eVar 7) aNil))) [7])) exF)) (rows.map rowD) [some (.dat v0), some (.dat v1), some (.dat (.tup (ts.map trD))), x3, some (.lst (acc.map rowD)), x5, x6, none, x8] π = .nx [some (.dat v0), some (.dat v1), some (.dat (.tup (ts.map trD))), x3, some (.lst ((acc ++ rows.flatMap (extR n)).map rowD)), a, b, none, x8] π
  | [], acc, x5, x6, _, _ => ⟨x5, x6, by rw [List.flatMap_nil, List.append_nil]; rfl⟩
  | row :: rows, acc, x5, x6, hr, hl => by
    have hm : most = 1000000 := rfl
    obtain ⟨h1, h2, h3⟩ := hr row List.mem_cons_self
    rw [List.flatMap_cons, List.length_append] at hl
    obtain ⟨a, b, e⟩ := ext_go hn v0 v1 ts hts x3 x8 π rows (acc ++ extR n row) (some (.dat (rowD row))) (some (.dat (.int (startR row)))) (fun z hz => hr z (List.mem_cons_of_mem _ hz)) (by rw [List.length_append]; omega)
    refine ⟨a, b, ?_⟩
    rw [List.map_cons, for_cons (ρ1 := [some (.dat v0), some (.dat v1), some (.dat (.tup (ts.map trD))), x3, some (.lst (acc.map rowD)), some (.dat (rowD row)), x6, none, x8]) (ρ2 := [some (.dat v0), some (.dat v1), some (.dat (.tup (ts.map trD))), x3, some (.lst ((acc ++ extR n row).map rowD)), some (.dat (rowD row)), some (.dat (.int (startR row))), none, x8]) rfl ?_, e, List.flatMap_cons, List.append_assoc]
    have s1 := start_ok row (by omega) [some (.dat v0), some (.dat v1), some (.dat (.tup (ts.map trD))), x3, some (.lst (acc.map rowD)), some (.dat (rowD row)), x6, none, x8] rfl π
    have hrg : rng2M [.int (startR row), .int n] π = .ok ((ups (startR row) ((n : Int) - startR row).toNat).map D.int) π := by
      rw [← rng_ups]
      show (if DL.inR (startR row) && DL.inR (n : Int) then pure (rng (startR row) ((n : Int) - startR row).toNat) else EM.bad : EM (List D)) π = _
      rw [if_pos (by
        unfold DL.inR
        rw [Bool.and_eq_true, Bool.and_eq_true, Bool.and_eq_true]
        refine ⟨⟨decide_eq_true ?_, decide_eq_true ?_⟩, decide_eq_true ?_, decide_eq_true ?_⟩ <;> omega)]
      rfl
    have c1 : compGo (gN 7) tYes_ (eBin addM (eVar 5) (eTup (aCons (eVar 7) aNil))) [some (.dat v0), some (.dat v1), some (.dat (.tup (ts.map trD))), x3, some (.lst (acc.map rowD)), some (.dat (rowD row)), some (.dat (.int (startR row))), none, x8] ((ups (startR row) ((n : Int) - startR row).toNat).map D.int) π = .ok ((extR n row).map rowD) π := by
      have := compGo_mapA (g := gN 7) (f := eBin addM (eVar 5) (eTup (aCons (eVar 7) aNil))) (ρ := [some (.dat v0), some (.dat v1), some (.dat (.tup (ts.map trD))), x3, some (.lst (acc.map rowD)), some (.dat (rowD row)), some (.dat (.int (startR row))), none, x8]) (π := π) D.int (fun k => rowD (row ++ [k])) (ups (startR row) ((n : Int) - startR row).toNat) fun k _ => by
        have e2 : addM (.tup (row.map D.int)) (.tup [.int k]) π = .ok (rowD (row ++ [k])) π := by
          rw [addT (by rw [List.length_map]; simp; omega)]
          unfold rowD
          rw [List.map_append]
          rfl
        exact ⟨_, rfl, by simp [rowD, e2]⟩
      rw [this]
      unfold extR
      rw [List.map_map]
      rfl
    have htl : ((ts.map trD).length : Int) = n := by rw [List.length_map]; omega
    have hul : ((ups (startR row) ((n : Int) - startR row).toNat).map D.int).length ≤ most := by rw [List.length_map, ups_len]; omega
    have hxl : (acc.map rowD).length + ((extR n row).map rowD).length ≤ most := by rw [List.length_map, List.length_map]; omega
    rw [List.map_append]
    generalize (extR n row).map rowD = X1 at *
    generalize acc.map rowD = X2 at *
    generalize (ups (startR row) ((n : Int) - startR row).toNat).map D.int = X3 at *
    generalize ts.map trD = X4 at *
    refine step_nx (P := fun o => o = _) (ρ1 := [some (.dat v0), some (.dat v1), some (.dat (.tup X4)), x3, some (.lst X2), some (.dat (rowD row)), some (.dat (.int (startR row))), none, x8]) (π1 := π) ?_ ?_
    · rw [sSet, s1]
      rfl
    · simp [htl, hrg, hul, c1, exF, hxl]
end G_k12

namespace G_k12
open PySem PySem.Spec PyProof.Rows L2 LamX DL
theorem max_tops (r : Rule) {us : List Turn} (π : Rt) : maxM [.lst ((0 :: topsS r s0 us).map D.int)] π = .ok (.int (roomS r us)) π := maxM_ok (0 :: topsS r s0 us) (by simp) π
abbrev findW : SM := sSeq (sSet 8 (eVal (eCall R_kept_steps (aCons (eVar 2) (aCons (eVar 5) aNil))))) (sIf (tAnd_ (eT (eBin (isM true) (eVar 8) (eC .non))) (eT (eBin gtM (eCall maxM (aCons (eVal (eCall R_tops_of (aCons (eVar 0) (aCons (eVar 8) aNil)))) aNil)) (eVar 1)))) (sRet (eVar 8)) sNop)
theorem find_go (r : Rule) (f : Int) {ts : List Turn} (hw : wfB 0 ts = true) (h6 : ts.length ≤ 6) (x3 x4 x6 x7 : Option SV) (π : Rt) : ∀ (rows : List (List Int)) (x5 x8 : Option SV), (∀ row ∈ rows, (∀ k ∈ row, 0 ≤ k ∧ k < (ts.length : Int)) ∧ row.Pairwise (· < ·) ∧ row.length ≤ ts.length) →
    (∀ row, rows.find? (badR r f ts) = some row → ∃ ρ', forGo (gN 5) findW (rows.map rowD) [some (.dat (.str (ruleS r))), some (.dat (.int f)), some (.dat (.tup (ts.map trD))), x3, x4, x5, x6, x7, x8] π = .ret (.dat (keptD (keptF ts row))) ρ' π) ∧
    (rows.find? (badR r f ts) = none → ∃ a b, forGo (gN 5) findW (rows.map rowD) [some (.dat (.str (ruleS r))), some (.dat (.int f)), some (.dat (.tup (ts.map trD))), x3, x4, x5, x6, x7, x8] π = .nx [some (.dat (.str (ruleS r))), some (.dat (.int f)), some (.dat (.tup (ts.map trD))), x3, x4, a, x6, x7, b] π)
  | [], x5, x8, _ => ⟨fun row h => (by cases h), fun _ => ⟨_, _, rfl⟩⟩
  | row :: rows, x5, x8, hr => by
    obtain ⟨h1, h2, h3⟩ := hr row List.mem_cons_self
    have e1 := kept_steps_ok hw (by omega) h1 (by omega) (d := rowD row) (.inl rfl) π
    have step : (badR r f ts row = true → ∃ ρ', findW [some (.dat (.str (ruleS r))), some (.dat (.int f)), some (.dat (.tup (ts.map trD))), x3, x4, some (.dat (rowD row)), x6, x7, x8] π = .ret (.dat (keptD (keptF ts row))) ρ' π) ∧ (badR r f ts row = false → findW [some (.dat (.str (ruleS r))), some (.dat (.int f)), some (.dat (.tup (ts.map trD))), x3, x4, some (.dat (rowD row)), x6, x7, x8] π = .nx [some (.dat (.str (ruleS r))), some (.dat (.int f)), some (.dat (.tup (ts.map trD))), x3, x4, some (.dat (rowD row)), x6, x7, some (.dat (keptD (keptF ts row)))] π) := by
      unfold badR
      cases hk : keptF ts row with
      | none =>
        rw [hk] at e1
        refine ⟨fun h => (by cases h), fun _ => ?_⟩
        generalize ts.map trD = T0 at *
        generalize rowD row = R0 at *
        simp [e1, keptD, D.isNon]
      | some us =>
        rw [hk] at e1
        obtain ⟨w, l⟩ := kept_wf hw h1 h2 hk
        have e2 := tops_ok r w (by omega) π
        have e3 := max_tops r (us := us) π
        have ek : keptD (some us) = .tup (us.map trD) := rfl
        rw [ek] at e1 ⊢
        generalize ts.map trD = T0 at *
        generalize rowD row = R0 at *
        generalize us.map trD = U0 at *
        generalize (0 :: topsS r s0 us).map D.int = T1 at *
        refine ⟨fun h => ?_, fun h => ?_⟩
        · have h : f < roomS r us := of_decide_eq_true h
          exact ⟨_, by simp [e1, e2, e3, h, D.isNon]; rfl⟩
        · have h : ¬ f < roomS r us := of_decide_eq_false h
          simp [e1, e2, e3, h, D.isNon]
    rw [List.find?_cons]
    cases hb : badR r f ts row with
    | true =>
      obtain ⟨ρ', e⟩ := step.1 hb
      refine ⟨fun row' h => ?_, fun h => (by cases h)⟩
      cases h
      exact ⟨ρ', by rw [List.map_cons, for_ret rfl e]⟩
    | false =>
      have e := step.2 hb
      obtain ⟨p1, p2⟩ := find_go r f hw h6 x3 x4 x6 x7 π rows (some (.dat (rowD row))) (some (.dat (keptD (keptF ts row)))) fun z hz => hr z (List.mem_cons_of_mem _ hz)
      refine ⟨fun row' h => ?_, fun h => ?_⟩
      · obtain ⟨ρ', e2⟩ := p1 row' h
        exact ⟨ρ', by rw [List.map_cons, for_cons rfl e, e2]⟩
      · obtain ⟨a, b, e2⟩ := p2 h
        exact ⟨a, b, by rw [List.map_cons, for_cons rfl e, e2]⟩
/-- from a level on -/
def lvFrom (n : Nat) : Nat → Nat → List (List Int)
  | _, 0 => []
  | k, m + 1 => lv n k ++ lvFrom n (k + 1) m
theorem while_ret {t : Ev → EM Bool} {s : SM} {ρ ρ' : Ev} {π π' : Rt} {rv : RV} (n : Nat) (h1 : t ρ π = .ok true π) (h2 : s ρ π = .ret rv ρ' π') : whileGo t s (n + 1) ρ π = .ret rv ρ' π' := by
  unfold whileGo
  show SO.of ρ (t ρ π) _ = _
  rw [h1]
  show (match s ρ π with
    | .nx ρ' π2 => whileGo t s n ρ' π2
    | .ct ρ' π2 => whileGo t s n ρ' π2
    | .brk ρ' π2 => .nx ρ' π2
    | o => o) = _
  rw [h2]
abbrev coreW : SM := sSeq (sSetF 4 (eLst aNil)) (sSeq (sFor (eItems (eVar 3)) (gN 5) (sSeq (sSet 6 (eIf (eT (eBin gtM (eCall lenM (aCons (eVar 5) aNil)) (eC (.int 0)))) (eBin addM (eBin ixM (eVar 5) (eUn negM (eC (.int 1)))) (eC (.int 1))) (eC (.int 0)))) (sMut 4 (eFrz (eComp (eCall rng2M (aCons (eVar 6) (aCons (eCall lenM (aCons (eVar 2) aNil)) aNil))) (gN 7) tYes_ (eBin addM (eVar 5) (eTup (aCons (eVar 7) aNil))) [7])) exF))) (sSeq (sFrz 4 (sFor (eItems (eVar 4)) (gN 5) findW)) (sFrz 4 (sSet 3 (eVar 4)))))
theorem lv_start {n : Nat} {row : List Int} (h : (∀ k ∈ row, 0 ≤ k ∧ k < (n : Int)) ∧ row.Pairwise (· < ·) ∧ row.length ≤ n) : 0 ≤ startR row ∧ startR row ≤ n := by
  unfold startR
  cases hl : row.getLast? with
  | none =>
    show (0 : Int) ≤ 0 ∧ (0 : Int) ≤ n
    omega
  | some a =>
    have := h.1 a (List.mem_of_getLast? hl)
    show 0 ≤ a + 1 ∧ a + 1 ≤ (n : Int)
    omega
theorem core_step (r : Rule) (f : Int) {ts : List Turn} (hw : wfB 0 ts = true) (h1 : 1 ≤ ts.length) (h6 : ts.length ≤ 6) {k : Nat} (hk : k < ts.length) (x4 x5 x6 x8 : Option SV) (π : Rt) :
    (∀ row, (lv ts.length (k + 1)).find? (badR r f ts) = some row → ∃ ρ', coreW [some (.dat (.str (ruleS r))), some (.dat (.int f)), some (.dat (.tup (ts.map trD))), some (.dat (.lst ((lv ts.length k).map rowD))), x4, x5, x6, none, x8] π = .ret (.dat (keptD (keptF ts row))) ρ' π) ∧
    ((lv ts.length (k + 1)).find? (badR r f ts) = none → ∃ a b c d, coreW [some (.dat (.str (ruleS r))), some (.dat (.int f)), some (.dat (.tup (ts.map trD))), some (.dat (.lst ((lv ts.length k).map rowD))), x4, x5, x6, none, x8] π = .nx [some (.dat (.str (ruleS r))), some (.dat (.int f)), some (.dat (.tup (ts.map trD))), some (.dat (.lst ((lv ts.length (k + 1)).map rowD))), a, b, c, none, d] π) := by
  obtain ⟨lf, _⟩ := lv_6 h1 h6
  have hl1 := lv_len h1 h6 (k := k) (by omega)
  have hl2 := lv_len h1 h6 (k := k + 1) (by omega)
  obtain ⟨a, b, e1⟩ := ext_go h6 (.str (ruleS r)) (.int f) ts rfl (some (.dat (.lst ((lv ts.length k).map rowD)))) x8 π (lv ts.length k) [] x5 x6 (fun row hr => by
    have q := lf row (lv_mem (by omega) hr)
    have := lv_start q
    exact ⟨by omega, this⟩) (by
    show 0 + ((lv ts.length k).flatMap (extR ts.length)).length ≤ 1000
    have : (lv ts.length k).flatMap (extR ts.length) = lv ts.length (k + 1) := rfl
    rw [this]
    omega)
  have e1 : forGo _ _ ((lv ts.length k).map rowD) [some (.dat (.str (ruleS r))), some (.dat (.int f)), some (.dat (.tup (ts.map trD))), some (.dat (.lst ((lv ts.length k).map rowD))), some (.lst []), x5, x6, none, x8] π = .nx [some (.dat (.str (ruleS r))), some (.dat (.int f)), some (.dat (.tup (ts.map trD))), some (.dat (.lst ((lv ts.length k).map rowD))), some (.lst ((lv ts.length (k + 1)).map rowD)), a, b, none, x8] π := e1
  obtain ⟨p1, p2⟩ := find_go r f hw h6 (some (.dat (.lst ((lv ts.length k).map rowD)))) (some (.dat (.lst ((lv ts.length (k + 1)).map rowD)))) b none π (lv ts.length (k + 1)) a x8 fun row hr => lf row (lv_mem (by omega) hr)
  refine ⟨fun row h => ?_, fun h => ?_⟩
  · obtain ⟨ρ', e2⟩ := p1 row h
    refine ⟨ρ', ?_⟩
    generalize (lv ts.length (k + 1)).map rowD = L2_ at *
    generalize (lv ts.length k).map rowD = L1_ at *
    refine step_nx (P := fun o => o = _) (ρ1 := [some (.dat (.str (ruleS r))), some (.dat (.int f)), some (.dat (.tup (ts.map trD))), some (.dat (.lst L1_)), some (.lst []), x5, x6, none, x8]) (π1 := π) (by simp) ?_
    refine step_nx (P := fun o => o = _) (ρ1 := [some (.dat (.str (ruleS r))), some (.dat (.int f)), some (.dat (.tup (ts.map trD))), some (.dat (.lst L1_)), some (.lst L2_), a, b, none, x8]) (π1 := π) (for_items (ds := L1_) (π1 := π) (by simp) e1) ?_
    show soS _ (sFor (eItems (eVar 4)) (gN 5) findW [some (.dat (.str (ruleS r))), some (.dat (.int f)), some (.dat (.tup (ts.map trD))), some (.dat (.lst L1_)), some (.dat (.lst L2_)), a, b, none, x8] π) = _
    rw [for_items (ds := L2_) (π1 := π) (by simp) e2]
    rfl
  · obtain ⟨a2, b2, e2⟩ := p2 h
    refine ⟨some (.dat (.lst ((lv ts.length (k + 1)).map rowD))), a2, b, b2, ?_⟩
    generalize (lv ts.length (k + 1)).map rowD = L2_ at *
    generalize (lv ts.length k).map rowD = L1_ at *
    refine step_nx (P := fun o => o = _) (ρ1 := [some (.dat (.str (ruleS r))), some (.dat (.int f)), some (.dat (.tup (ts.map trD))), some (.dat (.lst L1_)), some (.lst []), x5, x6, none, x8]) (π1 := π) (by simp) ?_
    refine step_nx (P := fun o => o = _) (ρ1 := [some (.dat (.str (ruleS r))), some (.dat (.int f)), some (.dat (.tup (ts.map trD))), some (.dat (.lst L1_)), some (.lst L2_), a, b, none, x8]) (π1 := π) (for_items (ds := L1_) (π1 := π) (by simp) e1) ?_
    show soS _ (sFor (eItems (eVar 4)) (gN 5) findW [some (.dat (.str (ruleS r))), some (.dat (.int f)), some (.dat (.tup (ts.map trD))), some (.dat (.lst L1_)), some (.dat (.lst L2_)), a, b, none, x8] π) = _
    rw [for_items (ds := L2_) (π1 := π) (by simp) e2]
    simp
theorem core_while (r : Rule) (f : Int) {ts : List Turn} (hw : wfB 0 ts = true) (h1 : 1 ≤ ts.length) (h6 : ts.length ≤ 6) {row : List Int} (π : Rt) : ∀ (m x k : Nat) (x4 x5 x6 x8 : Option SV), k + m = ts.length → (lvFrom ts.length (k + 1) m).find? (badR r f ts) = some row → ∃ ρ', whileGo (eT (eC (.bl true))) coreW (m + x) [some (.dat (.str (ruleS r))), some (.dat (.int f)), some (.dat (.tup (ts.map trD))), some (.dat (.lst ((lv ts.length k).map rowD))), x4, x5, x6, none, x8] π = .ret (.dat (keptD (keptF ts row))) ρ' π
  | 0, x, k, x4, x5, x6, x8, hk, h => by cases h
  | m + 1, x, k, x4, x5, x6, x8, hk, h => by
    obtain ⟨p1, p2⟩ := core_step r f hw h1 h6 (k := k) (by omega) x4 x5 x6 x8 π
    rw [lvFrom, List.find?_append] at h
    rw [show m + 1 + x = (m + x) + 1 by omega]
    cases hf : (lv ts.length (k + 1)).find? (badR r f ts) with
    | some row' =>
      rw [hf] at h
      cases h
      obtain ⟨ρ', e⟩ := p1 row hf
      exact ⟨ρ', while_ret _ (by simp) e⟩
    | none =>
      rw [hf] at h
      obtain ⟨a, b, c, d, e⟩ := p2 hf
      obtain ⟨ρ', e2⟩ := core_while r f hw h1 h6 π m x (k + 1) a b c d (by omega) h
      exact ⟨ρ', by rw [while_t _ (by simp) e]; exact e2⟩
end G_k12

namespace G_k12
open PySem PySem.Spec PyProof.Rows L2 LamX DL
/-! programs, told by their lets -/
def letsOf : List Turn → List Int
  | [] => []
  | .ask _ :: ts => letsOf ts
  | .lets j :: ts => j :: letsOf ts
theorem progB_iff : ∀ (ts : List Turn) (k : Nat) (g : List Int), progB k g (ts.map trD) = true ↔ wfB k ts = true ∧ (letsOf ts).Nodup ∧ ∀ j ∈ letsOf ts, j ∉ g
  | [], k, g => by simp [progB, wfB, letsOf]
  | t :: ts, k, g => by
    rw [List.map_cons]
    cases hs : isStepB k (trD t) with
    | false =>
      rw [progB_no k g _ _ hs]
      refine ⟨fun h => (by cases h), fun ⟨h, _⟩ => ?_⟩
      have := step_isB (k := k) (t := t) (by
        have := wf_at [] k t ts h
        exact this)
      rw [hs] at this
      cases this
    | true =>
      obtain ⟨t', e, ok⟩ := isStep_ex hs
      have et : t = t' := by
        cases t with
        | ask n => cases t' with
          | ask n' =>
            have e : D.tup [.str "ask", .int n] = .tup [.str "ask", .int n'] := e
            injection e with e
            injection e with _ e
            injection e with e _
            injection e with e
            rw [e]
          | lets n' =>
            have e : D.tup [.str "ask", .int n] = .tup [.str "let", .int n'] := e
            injection e with e
            injection e with e _
            injection e with e
            exact absurd e (of_decide_eq_false (by decide +kernel))
        | lets n => cases t' with
          | ask n' =>
            have e : D.tup [.str "let", .int n] = .tup [.str "ask", .int n'] := e
            injection e with e
            injection e with e _
            injection e with e
            exact absurd e (of_decide_eq_false (by decide +kernel))
          | lets n' =>
            have e : D.tup [.str "let", .int n] = .tup [.str "let", .int n'] := e
            injection e with e
            injection e with _ e
            injection e with e _
            injection e with e
            rw [e]
      subst et
      cases t with
      | ask n =>
        rw [progB_ask k g n _ ok, progB_iff ts, wfB, letsOf, decide_eq_true (show 1 ≤ n ∧ n ≤ 24 from ok), Bool.true_and]
      | lets j =>
        rw [progB_let k g j _ ok, Bool.and_eq_true, progB_iff ts, wfB, letsOf, decide_eq_true (show 0 ≤ j ∧ j < (k : Int) from ok), Bool.true_and, Bool.not_eq_true', List.any_eq_false, List.nodup_cons]
        constructor
        · intro ⟨h1, h2, h3, h4⟩
          refine ⟨h2, ⟨fun z => h4 j z (by simp), h3⟩, fun z hz q => ?_⟩
          rcases List.mem_cons.mp hz with rfl | hz
          · exact h1 z q (decide_eq_true rfl)
          · exact h4 z hz (List.mem_append_left _ q)
        · intro ⟨h2, ⟨h3, h5⟩, h4⟩
          refine ⟨fun z hz q => h4 j List.mem_cons_self (by rw [← of_decide_eq_true q]; exact hz), h2, h5, fun z hz q => ?_⟩
          rcases List.mem_append.mp q with q | q
          · exact h4 z (List.mem_cons_of_mem _ hz) q
          · cases List.mem_singleton.mp q
            exact h3 hz
/-- a program: kept by its law -/
def okProg (ts : List Turn) : Prop := wfB 0 ts = true ∧ (letsOf ts).Nodup ∧ 1 ≤ ts.length ∧ ts.length ≤ 8
theorem isProg_iff (ts : List Turn) : isProg (.tup (ts.map trD)) = true ↔ okProg ts := by
  show (decide (1 ≤ (ts.map trD).length ∧ (ts.map trD).length ≤ 8) && progB 0 [] (ts.map trD)) = true ↔ _
  rw [Bool.and_eq_true, decide_eq_true_eq, progB_iff, List.length_map]
  exact ⟨fun ⟨h1, h2, h3, _⟩ => ⟨h2, h3, h1⟩, fun ⟨h1, h2, h3⟩ => ⟨h3, h1, h2, fun _ _ z => by simp at z⟩⟩
theorem lets_at : ∀ (ts : List Turn) (i : Nat) (j : Int), ts[i]? = some (.lets j) → j ∈ letsOf ts
  | [], i, j, h => by simp at h
  | t :: ts, 0, j, h => by
    have : t = .lets j := by simpa using h
    subst this
    exact List.mem_cons_self
  | t :: ts, i + 1, j, h => by
    have := lets_at ts i j (by simpa using h)
    cases t with
    | ask n => exact this
    | lets k => exact List.mem_cons_of_mem _ this
theorem lets_inj : ∀ (ts : List Turn) (i k : Nat) (j : Int), (letsOf ts).Nodup → ts[i]? = some (.lets j) → ts[k]? = some (.lets j) → i = k
  | [], i, k, j, _, h, _ => by simp at h
  | t :: ts, 0, 0, j, _, _, _ => rfl
  | t :: ts, 0, k + 1, j, hn, h1, h2 => by
    have : t = .lets j := by simpa using h1
    subst this
    exact absurd (lets_at ts k j (by simpa using h2)) (List.nodup_cons.mp hn).1
  | t :: ts, i + 1, 0, j, hn, h1, h2 => by
    have : t = .lets j := by simpa using h2
    subst this
    exact absurd (lets_at ts i j (by simpa using h1)) (List.nodup_cons.mp hn).1
  | t :: ts, i + 1, k + 1, j, hn, h1, h2 => by
    have hn2 : (letsOf ts).Nodup := by
      cases t with
      | ask n => exact hn
      | lets z => exact (List.nodup_cons.mp hn).2
    have := lets_inj ts i k j hn2 (by simpa using h1) (by simpa using h2)
    omega
theorem asksF_lt : ∀ (ts : List Turn) (i : Int), (asksF i ts).Pairwise (· < ·)
  | [], i => .nil
  | .ask n :: ts, i => .cons (fun a ha => by have := asksF_mem ts (i + 1) a ha; omega) (asksF_lt ts (i + 1))
  | .lets n :: ts, i => asksF_lt ts (i + 1)
theorem lt_inj {xs : List Int} (h : xs.Pairwise (· < ·)) {i j : Nat} {a : Int} (h1 : xs[i]? = some a) (h2 : xs[j]? = some a) : i = j := by
  obtain ⟨b1, e1⟩ := List.getElem?_eq_some_iff.mp h1
  obtain ⟨b2, e2⟩ := List.getElem?_eq_some_iff.mp h2
  have p := List.pairwise_iff_getElem.mp h
  apply Classical.byContradiction
  intro hne
  rcases Nat.lt_or_gt_of_ne hne with q | q
  · have := p i j b1 b2 q
    omega
  · have := p j i b2 b1 q
    omega
theorem atI_nat {α : Type} {xs : List α} {k : Int} {a : α} (h0 : 0 ≤ k) (h : atI xs k = some a) : xs[k.toNat]? = some a := by
  have h : (ixN xs.length k).bind (fun j => xs[j]?) = some a := h
  obtain ⟨i, e1, e2⟩ := Option.bind_eq_some_iff.mp h
  unfold ixN at e1
  rw [if_pos h0] at e1
  split at e1
  · cases e1; exact e2
  · cases e1
theorem nat_atI {α : Type} {xs : List α} {k : Nat} {a : α} (h : xs[k]? = some a) : atI xs (k : Int) = some a := by
  obtain ⟨b, e⟩ := List.getElem?_eq_some_iff.mp h
  rw [atI_get (by omega) (by omega)]
  exact congrArg some e
/-- where a let of what is left comes from -/
theorem goK_let {ts : List Turn} {kept : List Int} : ∀ (row : List Int) (us : List Turn), goK ts kept row = some us → ∀ q ∈ letsOf us, ∃ k ∈ row, ∃ j a, atI ts k = some (.lets j) ∧ atI (asksF 0 ts) j = some a ∧ ∃ i : Nat, q = i ∧ kept[i]? = some a
  | [], us, h, q, hq => by cases h; simp [letsOf] at hq
  | k :: row, us, h, q, hq => by
    rw [goK] at h
    cases hk : stepK ts kept k with
    | none => rw [hk] at h; cases h
    | some t =>
      rw [hk] at h
      obtain ⟨vs, e1, e2⟩ := Option.map_eq_some_iff.mp h
      subst e2
      have ih := goK_let row vs e1
      have up : q ∈ letsOf vs → ∃ k' ∈ k :: row, ∃ j a, atI ts k' = some (.lets j) ∧ atI (asksF 0 ts) j = some a ∧ ∃ i : Nat, q = i ∧ kept[i]? = some a := fun z => by
        obtain ⟨k', hk', r⟩ := ih q z
        exact ⟨k', List.mem_cons_of_mem _ hk', r⟩
      cases t with
      | ask n => exact up hq
      | lets p =>
        rcases List.mem_cons.mp hq with rfl | hq
        · refine ⟨k, List.mem_cons_self, ?_⟩
          unfold stepK at hk
          cases hz : atI ts k with
          | none => rw [hz] at hk; cases hk
          | some z =>
            rw [hz] at hk
            cases z with
            | ask n => cases hk
            | lets j =>
              obtain ⟨a, e4, e5⟩ := Option.bind_eq_some_iff.mp hk
              obtain ⟨i, e6, e7⟩ := Option.map_eq_some_iff.mp e5
              cases e7
              obtain ⟨h1, h2, _⟩ := List.findIdx?_eq_some_iff_getElem.mp e6
              exact ⟨j, a, rfl, e4, i, rfl, by rw [List.getElem?_eq_getElem h1]; exact congrArg some (of_decide_eq_true h2)⟩
        · exact up hq
theorem goK_nodup {ts : List Turn} (hw : wfB 0 ts = true) (hn : (letsOf ts).Nodup) {kept : List Int} : ∀ (row : List Int) (us : List Turn), (∀ k ∈ row, 0 ≤ k ∧ k < (ts.length : Int)) → row.Pairwise (· < ·) → goK ts kept row = some us → (letsOf us).Nodup
  | [], us, _, _, h => by cases h; exact .nil
  | k :: row, us, hr, hs, h => by
    rw [goK] at h
    cases hk : stepK ts kept k with
    | none => rw [hk] at h; cases h
    | some t =>
      rw [hk] at h
      obtain ⟨vs, e1, e2⟩ := Option.map_eq_some_iff.mp h
      subst e2
      obtain ⟨s1, s2⟩ := List.pairwise_cons.mp hs
      have ih := goK_nodup hw hn row vs (fun z hz => hr z (List.mem_cons_of_mem _ hz)) s2 e1
      cases t with
      | ask n => exact ih
      | lets p =>
        refine List.nodup_cons.mpr ⟨fun hp => ?_, ih⟩
        obtain ⟨k', hk', j', a', b1, b2, i', b3, b4⟩ := goK_let row vs e1 p hp
        have := goK_let [k] [.lets p] (by rw [goK, hk]; rfl) p List.mem_cons_self
        obtain ⟨k2, hk2, j, a, c1, c2, i, c3, c4⟩ := this
        cases List.mem_singleton.mp hk2
        have hii : i = i' := by omega
        subst hii
        rw [b4] at c4
        cases c4
        have hj0 : 0 ≤ j ∧ 0 ≤ j' := by
          have f : ∀ (k j : Int), 0 ≤ k → atI ts k = some (.lets j) → 0 ≤ j := fun k j h0 h => by
            have := atI_nat h0 h
            obtain ⟨hi, e3⟩ := List.getElem?_eq_some_iff.mp this
            have e4 : ts = ts.take k.toNat ++ .lets j :: ts.drop (k.toNat + 1) := by
              rw [← e3]
              simp
            have ok := wf_at (ts.take k.toNat) 0 (.lets j) (ts.drop (k.toNat + 1)) (by rw [← e4]; exact hw)
            exact ok.1
          exact ⟨f k j (hr k List.mem_cons_self).1 c1, f k' j' (hr k' (List.mem_cons_of_mem _ hk')).1 b1⟩
        have hjj := lt_inj (asksF_lt ts 0) (atI_nat hj0.1 c2) (atI_nat hj0.2 b2)
        have hj : j = j' := by omega
        subst hj
        have := lets_inj ts k.toNat k'.toNat j hn (atI_nat (hr k List.mem_cons_self).1 c1) (atI_nat (hr k' (List.mem_cons_of_mem _ hk')).1 b1)
        have := s1 k' hk'
        have := (hr k List.mem_cons_self).1
        have := (hr k' (List.mem_cons_of_mem _ hk')).1
        omega
theorem kept_prog {ts : List Turn} (h : okProg ts) {row : List Int} (hr : ∀ k ∈ row, 0 ≤ k ∧ k < (ts.length : Int)) (hs : row.Pairwise (· < ·)) (h1 : row ≠ []) {us : List Turn} (e : keptF ts row = some us) (hl : row.length ≤ 8) : okProg us := by
  obtain ⟨w, l⟩ := kept_wf h.1 hr hs e
  refine ⟨w, goK_nodup h.1 h.2.1 row us hr hs e, ?_, by omega⟩
  have : 1 ≤ row.length := by
    cases row with
    | nil => exact absurd rfl h1
    | cons a b => simp
  omega
end G_k12

namespace G_k12
open PySem PySem.Spec PyProof.Rows L2 LamX DL
/-! what is left of what is left -/
def phi (row : List Int) (i : Int) : Int := (row[i.toNat]?).getD 0
theorem goK_get {ts : List Turn} {kept : List Int} : ∀ (row : List Int) (us : List Turn) (i : Nat) (k : Int), goK ts kept row = some us → row[i]? = some k → ∃ t, us[i]? = some t ∧ stepK ts kept k = some t
  | [], us, i, k, h, e => by simp at e
  | a :: row, us, i, k, h, e => by
    rw [goK] at h
    cases hk : stepK ts kept a with
    | none => rw [hk] at h; cases h
    | some t =>
      rw [hk] at h
      obtain ⟨vs, e1, e2⟩ := Option.map_eq_some_iff.mp h
      subst e2
      cases i with
      | zero =>
        have : a = k := by simpa using e
        subst this
        exact ⟨t, rfl, hk⟩
      | succ i =>
        obtain ⟨t', h1, h2⟩ := goK_get row vs i k e1 (by simpa using e)
        exact ⟨t', by simpa using h1, h2⟩
theorem stepK_isA {ts : List Turn} {kept : List Int} {k : Int} {t : Turn} (h : stepK ts kept k = some t) : isAT t = isAI ts k := by
  unfold stepK at h
  unfold isAI
  cases hz : atI ts k with
  | none => rw [hz] at h; cases h
  | some z =>
    rw [hz] at h
    cases z with
    | ask n => cases h; rfl
    | lets j =>
      obtain ⟨a, e4, e5⟩ := Option.bind_eq_some_iff.mp h
      obtain ⟨i, e6, e7⟩ := Option.map_eq_some_iff.mp e5
      cases e7
      rfl
theorem isAI_of {us : List Turn} {i : Nat} {t : Turn} (h : us[i]? = some t) : isAI us (i : Int) = isAT t := by
  unfold isAI
  rw [nat_atI h]
  cases t <;> rfl
theorem asks_phi {ts : List Turn} {kept row : List Int} : ∀ (suf : List Int) (us : List Turn) (c : Nat), goK ts kept suf = some us → (∀ i : Nat, suf[i]? = row[c + i]?) → (asksF c us).map (phi row) = suf.filter (isAI ts)
  | [], us, c, h, _ => by cases h; rfl
  | k :: suf, us, c, h, hs => by
    rw [goK] at h
    cases hk : stepK ts kept k with
    | none => rw [hk] at h; cases h
    | some t =>
      rw [hk] at h
      obtain ⟨vs, e1, e2⟩ := Option.map_eq_some_iff.mp h
      subst e2
      have ih := asks_phi suf vs (c + 1) e1 fun i => by
        have := hs (i + 1)
        rw [show c + 1 + i = c + (i + 1) by omega]
        simpa using this
      have e3 : ((c + 1 : Nat) : Int) = (c : Int) + 1 := by omega
      rw [e3] at ih
      have hA := stepK_isA hk
      have h0 : row[c]? = some k := by
        have := hs 0
        rw [Nat.add_zero] at this
        rw [← this]
        rfl
      rw [List.filter_cons, ← hA]
      cases t with
      | ask n =>
        rw [asksF, List.map_cons, ih]
        have : phi row (c : Int) = k := by
          unfold phi
          rw [Int.toNat_natCast, h0]
          rfl
        rw [this]
        rfl
      | lets j => exact ih
theorem phi_inj {row : List Int} (hs : row.Pairwise (· < ·)) {p q : Int} (hp : 0 ≤ p ∧ p < row.length) (hq : 0 ≤ q ∧ q < row.length) (e : phi row p = phi row q) : p = q := by
  have h1 : row[p.toNat]? = some (phi row p) := by
    unfold phi
    rw [List.getElem?_eq_getElem (by omega)]
    rfl
  have h2 : row[q.toNat]? = some (phi row q) := by
    unfold phi
    rw [List.getElem?_eq_getElem (by omega)]
    rfl
  rw [← e] at h2
  have := lt_inj hs h1 h2
  omega
theorem kept_comp {ts us : List Turn} (hw : wfB 0 ts = true) {row : List Int} (hr : ∀ k ∈ row, 0 ≤ k ∧ k < (ts.length : Int)) (hs : row.Pairwise (· < ·)) (e : keptF ts row = some us) {rowU : List Int} (hu : ∀ i ∈ rowU, 0 ≤ i ∧ i < (us.length : Int)) : keptF us rowU = keptF ts (rowU.map (phi row)) := by
  obtain ⟨_, hl⟩ := kept_wf hw hr hs e
  have get : ∀ i : Int, 0 ≤ i ∧ i < (us.length : Int) → row[i.toNat]? = some (phi row i) := fun i hi => by
    unfold phi
    rw [List.getElem?_eq_getElem (by omega)]
    rfl
  have at_ : ∀ i : Int, 0 ≤ i ∧ i < (us.length : Int) → ∃ t, atI us i = some t ∧ stepK ts (row.filter (isAI ts)) (phi row i) = some t := fun i hi => by
    obtain ⟨t, h1, h2⟩ := goK_get row us i.toNat (phi row i) e (get i hi)
    have := nat_atI h1
    rw [Int.toNat_of_nonneg hi.1] at this
    exact ⟨t, this, h2⟩
  have isA_ : ∀ i : Int, 0 ≤ i ∧ i < (us.length : Int) → isAI us i = isAI ts (phi row i) := fun i hi => by
    obtain ⟨t, h1, h2⟩ := at_ i hi
    rw [← stepK_isA h2]
    unfold isAI
    rw [h1]
    cases t <;> rfl
  have hap := asks_phi (row := row) row us 0 e fun i => by rw [Nat.zero_add]
  have hap : (asksF 0 us).map (phi row) = row.filter (isAI ts) := hap
  have hkept : (rowU.map (phi row)).filter (isAI ts) = (rowU.filter (isAI us)).map (phi row) := by
    rw [List.filter_map]
    congr 1
    refine List.filter_congr fun i hi => ?_
    exact (isA_ i (hu i hi)).symm
  have step_ : ∀ i : Int, 0 ≤ i ∧ i < (us.length : Int) → stepK us (rowU.filter (isAI us)) i = stepK ts ((rowU.filter (isAI us)).map (phi row)) (phi row i) := fun i hi => by
    obtain ⟨t, h1, h2⟩ := at_ i hi
    unfold stepK at h2 ⊢
    rw [h1]
    cases hz : atI ts (phi row i) with
    | none => rw [hz] at h2; cases h2
    | some z =>
      rw [hz] at h2
      cases z with
      | ask n => cases h2; rfl
      | lets j =>
        obtain ⟨a, e4, e5⟩ := Option.bind_eq_some_iff.mp h2
        obtain ⟨q, e6, e7⟩ := Option.map_eq_some_iff.mp e5
        cases e7
        obtain ⟨b1, b2, _⟩ := List.findIdx?_eq_some_iff_getElem.mp e6
        have b3 : (row.filter (isAI ts))[q]? = some a := by rw [List.getElem?_eq_getElem b1]; exact congrArg some (of_decide_eq_true b2)
        rw [← hap, List.getElem?_map] at b3
        obtain ⟨p, c1, c2⟩ := Option.map_eq_some_iff.mp b3
        have c3 : atI (asksF 0 us) ((q : Nat) : Int) = some p := nat_atI c1
        have hp : 0 ≤ p ∧ p < (us.length : Int) := by
          have := asksF_mem us 0 p (List.mem_of_getElem? c1)
          omega
        show (atI (asksF 0 us) ((q : Nat) : Int)).bind _ = (atI (asksF 0 ts) j).bind _
        rw [c3, e4, Option.bind_some, Option.bind_some, List.findIdx?_map]
        congr 1
        have : ∀ zs : List Int, (∀ z ∈ zs, 0 ≤ z ∧ z < (us.length : Int)) → (zs.findIdx? fun z => decide (z = p)) = zs.findIdx? ((fun z => decide (z = a)) ∘ phi row) := by
          intro zs
          induction zs with
          | nil => exact fun _ => rfl
          | cons z zs ih =>
            intro hz
            rw [List.findIdx?_cons, List.findIdx?_cons, ih fun y hy => hz y (List.mem_cons_of_mem _ hy)]
            have : decide (z = p) = ((fun z => decide (z = a)) ∘ phi row) z := by
              show _ = decide (phi row z = a)
              rw [Bool.eq_iff_iff, decide_eq_true_eq, decide_eq_true_eq, ← c2]
              refine ⟨fun h => by rw [h], fun h => ?_⟩
              have h3 := hz z List.mem_cons_self
              exact phi_inj hs (by omega) (by omega) h
            rw [this]
        exact this _ fun z hz => hu z (List.mem_filter.mp hz).1
  unfold keptF
  rw [hkept]
  have go : ∀ suf : List Int, (∀ i ∈ suf, 0 ≤ i ∧ i < (us.length : Int)) → goK us (rowU.filter (isAI us)) suf = goK ts ((rowU.filter (isAI us)).map (phi row)) (suf.map (phi row)) := by
    intro suf
    induction suf with
    | nil => exact fun _ => rfl
    | cons i suf ih =>
      intro h
      rw [List.map_cons, goK, goK, step_ i (h i List.mem_cons_self), ih fun z hz => h z (List.mem_cons_of_mem _ hz)]
  exact go rowU hu
end G_k12

namespace G_k12
open PySem PySem.Spec PyProof.Rows L2 LamX DL
/-! cores, asked and judged -/
theorem prog_th {ts : List Turn} {m : Nat} (h2 : 2 ≤ m) (hl : ts.length ≤ m) : th m 2 (.tup (ts.map trD)) = true := by
  refine th_tup.mpr ⟨by rw [List.length_map]; exact hl, fun x hx => ?_⟩
  obtain ⟨t, _, rfl⟩ := List.mem_map.mp hx
  cases t with
  | ask n =>
    refine th_tup.mpr ⟨h2, fun y hy => ?_⟩
    simp only [List.mem_cons, List.mem_nil_iff, or_false] at hy
    rcases hy with rfl | rfl
    · exact th_str _ _ _ (strOk_of _)
    · exact th_int _ _ _
  | lets n =>
    refine th_tup.mpr ⟨h2, fun y hy => ?_⟩
    simp only [List.mem_cons, List.mem_nil_iff, or_false] at hy
    rcases hy with rfl | rfl
    · exact th_str _ _ _ (strOk_of _)
    · exact th_int _ _ _
theorem need_program_ok (r : Rule) {m n : Nat} (hm : m ≤ 1000) {d : D} (h : th m n d = true) (π : Rt) : R_need_program [.str (ruleS r), d] π = if isProg d = true then .ok (.dat .non) π else .exc ⟨"NoPrograms", []⟩ π := by
  have e1 := need_rule_ok r π
  have e2 := is_program_ok hm h π
  cases hp : isProg d with
  | true =>
    rw [hp] at e2
    simp [R_need_program, W_need_program, e1, e2]
  | false =>
    rw [hp] at e2
    simp [R_need_program, W_need_program, e1, e2]
theorem need_program_yes (r : Rule) {ts : List Turn} (h : okProg ts) (π : Rt) : R_need_program [.str (ruleS r), .tup (ts.map trD)] π = .ok (.dat .non) π := by
  have := need_program_ok r (m := 10) (by decide) (prog_th (ts := ts) (m := 10) (by decide) (by have := h.2.2.2; omega)) π
  rwa [if_pos ((isProg_iff ts).mpr h)] at this
theorem program_room_ok (r : Rule) {ts : List Turn} (h : okProg ts) (π : Rt) : R_program_room [.str (ruleS r), .tup (ts.map trD)] π = .ok (.dat (.int (roomS r ts))) π := by
  have e1 := need_program_yes r h π
  have e2 := tops_ok r h.1 h.2.2.2 π
  have e3 := max_tops r (us := ts) π
  generalize (0 :: topsS r s0 ts).map D.int = T1 at *
  generalize ts.map trD = T0 at *
  simp [R_program_room, W_program_room, e1, e2, e3]
theorem is_refused_ok (r : Rule) {f : Int} (f0 : 0 ≤ f) (f1 : f ≤ 24) {ts : List Turn} (h : okProg ts) (π : Rt) : R_is_refused [.str (ruleS r), .int f, .tup (ts.map trD)] π = .ok (.dat (.bl (decide (f < roomS r ts)))) π := by
  have e1 := need_program_yes r h π
  have e2 := tops_ok r h.1 h.2.2.2 π
  have e3 := max_tops r (us := ts) π
  have e4 := need_number_ok (d := .int f) rfl 0 24 π
  rw [if_pos (isNum_in f0 f1)] at e4
  generalize (0 :: topsS r s0 ts).map D.int = T1 at *
  generalize ts.map trD = T0 at *
  simp [R_is_refused, W_is_refused, c_MOST_FIELD, e1, e2, e3, e4]
theorem lv_all : ∀ n ∈ [1, 2, 3, 4, 5, 6], decide (allLv n = [] :: lvFrom n 1 n) = true := by
  decide +kernel
theorem lv_all6 {n : Nat} (h1 : 1 ≤ n) (h6 : n ≤ 6) : allLv n = [] :: lvFrom n 1 n := by
  have := lv_all n (by
    have : n = 1 ∨ n = 2 ∨ n = 3 ∨ n = 4 ∨ n = 5 ∨ n = 6 := by omega
    rcases this with rfl | rfl | rfl | rfl | rfl | rfl <;> simp)
  exact of_decide_eq_true this
theorem full_asks : ∀ (suf : List Turn) (ts : List Turn) (c : Nat), (∀ j z, suf[j]? = some z → ts[c + j]? = some z) → (ups (c : Nat) suf.length).filter (isAI ts) = asksF c suf
  | [], ts, c, _ => rfl
  | t :: suf, ts, c, h => by
    have ih := full_asks suf ts (c + 1) fun j z hz => by
      rw [show c + 1 + j = c + (j + 1) by omega]
      exact h (j + 1) z (by simpa using hz)
    have e3 : ((c + 1 : Nat) : Int) = (c : Int) + 1 := by omega
    rw [e3] at ih
    have h0 : isAI ts (c : Int) = isAT t := isAI_of (h 0 t rfl)
    rw [List.length_cons, ups, List.filter_cons, h0, ih]
    cases t <;> rfl
theorem full_go {ts : List Turn} (hw : wfB 0 ts = true) : ∀ (suf : List Turn) (c : Nat), ts = ts.take c ++ suf → c + suf.length = ts.length → goK ts (asksF 0 ts) (ups (c : Nat) suf.length) = some suf
  | [], c, _, _ => rfl
  | t :: suf, c, h, hl => by
    rw [List.length_cons] at hl
    have ih := full_go hw suf (c + 1) (by
      have e2 : ts.take (c + 1) = ts.take c ++ [t] := by
        have h2 : ts[c]? = some t := by
          rw [h, List.getElem?_append_right (List.length_take_le _ _), List.length_take, show c - min c ts.length = 0 by omega]
          rfl
        rw [List.take_add_one, h2]
        rfl
      rw [e2, List.append_assoc]
      exact h) (by omega)
    have e3 : ((c + 1 : Nat) : Int) = (c : Int) + 1 := by omega
    rw [e3] at ih
    have h2 : ts[c]? = some t := by
      rw [h, List.getElem?_append_right (List.length_take_le _ _), List.length_take, show c - min c ts.length = 0 by omega]
      rfl
    have hs : stepK ts (asksF 0 ts) (c : Int) = some t := by
      unfold stepK
      rw [nat_atI h2]
      cases t with
      | ask n => rfl
      | lets j =>
        obtain ⟨a, ha⟩ := let_ask hw (nat_atI h2)
        have hj0 : 0 ≤ j := by
          obtain ⟨hi, e3⟩ := List.getElem?_eq_some_iff.mp h2
          have e4 : ts = ts.take c ++ .lets j :: ts.drop (c + 1) := by
            rw [← e3]
            simp
          exact (wf_at (ts.take c) 0 (.lets j) (ts.drop (c + 1)) (by rw [← e4]; exact hw)).1
        have hat := atI_nat hj0 ha
        show (atI (asksF 0 ts) j).bind _ = _
        rw [ha, Option.bind_some]
        have hf : ((asksF 0 ts).findIdx? fun z => decide (z = a)) = some j.toNat := by
          obtain ⟨b1, b2⟩ := List.getElem?_eq_some_iff.mp hat
          refine List.findIdx?_eq_some_iff_getElem.mpr ⟨b1, decide_eq_true b2, fun i hi q => ?_⟩
          have q := of_decide_eq_true q
          have := lt_inj (asksF_lt ts 0) (i := i) (by rw [List.getElem?_eq_getElem (by omega), q]) hat
          omega
        rw [hf]
        show some (Turn.lets ((j.toNat : Nat) : Int)) = _
        rw [Int.toNat_of_nonneg hj0]
    rw [List.length_cons, ups, goK, hs, ih]
    rfl
theorem kept_full {ts : List Turn} (hw : wfB 0 ts = true) : keptF ts (ups 0 ts.length) = some ts := by
  unfold keptF
  have := full_asks ts ts 0 fun j z h => by rw [Nat.zero_add]; exact h
  have this : (ups 0 ts.length).filter (isAI ts) = asksF 0 ts := this
  rw [this]
  exact full_go hw ts 0 rfl (by omega)
theorem room_nil (r : Rule) : roomS r [] = 0 := rfl
/-- the first row by which what is left is refused -/
theorem first_bad (r : Rule) {f : Int} (f0 : 0 ≤ f) {ts : List Turn} (hw : wfB 0 ts = true) (h1 : 1 ≤ ts.length) (h6 : ts.length ≤ 6) (hb : f < roomS r ts) : ∃ row rest, (lvFrom ts.length 1 ts.length).find? (badR r f ts) = some row ∧ (allLv ts.length).filter (badR r f ts) = row :: rest ∧ ∃ pre post, allLv ts.length = pre ++ row :: post ∧ ∀ z ∈ pre, badR r f ts z = false := by
  have e1 := lv_all6 h1 h6
  have hnil : badR r f ts [] = false := by
    have : keptF ts [] = some [] := rfl
    have e : badR r f ts [] = decide (f < 0) := rfl
    rw [e]
    exact decide_eq_false (by omega)
  have hfull : badR r f ts (ups 0 ts.length) = true := by
    unfold badR
    rw [kept_full hw]
    exact decide_eq_true hb
  have hmem : ups 0 ts.length ∈ allLv ts.length := lv_mem (k := ts.length) (Nat.le_refl _) (by rw [(lv_6 h1 h6).2]; exact List.mem_singleton.mpr rfl)
  have hmem2 : ups 0 ts.length ∈ lvFrom ts.length 1 ts.length := by
    rw [e1] at hmem
    rcases List.mem_cons.mp hmem with q | q
    · have := congrArg List.length q
      rw [ups_len, List.length_nil] at this
      omega
    · exact q
  cases hf : (lvFrom ts.length 1 ts.length).find? (badR r f ts) with
  | none =>
    have := List.find?_eq_none.mp hf _ hmem2
    exact absurd hfull this
  | some row =>
    obtain ⟨hb2, as, bs, e2, h3⟩ := List.find?_eq_some_iff_append.mp hf
    refine ⟨row, bs.filter (badR r f ts), rfl, ?_, [] :: as, bs, ?_, ?_⟩
    · rw [e1, e2, List.filter_cons, hnil, List.filter_append, List.filter_cons, hb2]
      have : as.filter (badR r f ts) = [] := List.filter_eq_nil_iff.mpr fun z hz => by
        have := h3 z hz
        simpa using this
      rw [this]
      rfl
    · rw [e1, e2]
      rfl
    · intro z hz
      rcases List.mem_cons.mp hz with rfl | hz
      · exact hnil
      · have := h3 z hz
        simpa using this
theorem core_ok (r : Rule) {f : Int} (f0 : 0 ≤ f) (f1 : f ≤ 24) {ts : List Turn} (h : okProg ts) (h6 : ts.length ≤ 6) (hb : f < roomS r ts) {row : List Int} (hrow : (lvFrom ts.length 1 ts.length).find? (badR r f ts) = some row) (π : Rt) : R_core [.str (ruleS r), .int f, .tup (ts.map trD)] π = .ok (.dat (keptD (keptF ts row))) π := by
  have e1 := is_refused_ok r f0 f1 h π
  rw [decide_eq_true hb] at e1
  obtain ⟨ρ', e2⟩ := core_while r f h.1 h.2.2.1 h6 (row := row) π ts.length (1000 - ts.length) 0 none none none none (by omega) hrow
  rw [R_core, run_eq [some (.dat (.str (ruleS r))), some (.dat (.int f)), some (.dat (.tup (ts.map trD))), none, none, none, none, none, none] rfl]
  unfold W_core
  refine step_nx (P := fun o => outB o = .ok (.dat (keptD (keptF ts row))) π) (ρ1 := [some (.dat (.str (ruleS r))), some (.dat (.int f)), some (.dat (.tup (ts.map trD))), none, none, none, none, none, none]) (π1 := π) (by simp [e1]) ?_
  refine step_nx (P := fun o => outB o = .ok (.dat (keptD (keptF ts row))) π) (ρ1 := [some (.dat (.str (ruleS r))), some (.dat (.int f)), some (.dat (.tup (ts.map trD))), some (.dat (.lst ((lv ts.length 0).map rowD))), none, none, none, none, none]) (π1 := π) (by simp [lv, rowD]) ?_
  show outB (whileGo _ _ 1000 _ π) = _
  rw [show 1000 = ts.length + (1000 - ts.length) by omega, e2]
  rfl
theorem core_no (r : Rule) {f : Int} (f0 : 0 ≤ f) (f1 : f ≤ 24) {ts : List Turn} (h : okProg ts) (hb : ¬ f < roomS r ts) (π : Rt) : R_core [.str (ruleS r), .int f, .tup (ts.map trD)] π = .exc ⟨"NotThere", []⟩ π := by
  have e1 := is_refused_ok r f0 f1 h π
  rw [decide_eq_false hb] at e1
  generalize ts.map trD = T0 at *
  simp [R_core, W_core, e1]
theorem core_nil (r : Rule) (f : Int) (π : Rt) : R_core [.str (ruleS r), .int f, .tup []] π = .exc ⟨"NoPrograms", []⟩ π := by
  have e1 := need_program_ok r (m := 10) (n := 2) (by decide) (d := .tup []) (by decide +kernel) π
  rw [if_neg (by decide +kernel)] at e1
  have e2 : R_is_refused [.str (ruleS r), .int f, .tup []] π = .exc ⟨"NoPrograms", []⟩ π := by simp [R_is_refused, W_is_refused, e1]
  simp [R_core, W_core, e2]
theorem room_let (r : Rule) (π : Rt) : R_program_room [.str (ruleS r), .tup [.tup [.str "let", .int 0]]] π = .exc ⟨"NoPrograms", []⟩ π := by
  have e1 := need_program_ok r (m := 10) (n := 2) (by decide) (d := .tup [.tup [.str "let", .int 0]]) (by decide +kernel) π
  rw [if_neg (by decide +kernel)] at e1
  simp [R_program_room, W_program_room, e1]
/-- a row without one number -/
def gapR (n : Nat) (g : Int) : List Int := (ups 0 n).filter fun k => !decide (k = g)
theorem gapR_ok {n : Nat} {g : Int} : (∀ k ∈ gapR n g, 0 ≤ k ∧ k < (n : Int)) ∧ (gapR n g).length ≤ n ∧ (gapR n g).Pairwise (· < ·) := by
  refine ⟨fun k hk => ?_, ?_, ?_⟩
  · have := ups_mem _ _ _ (List.mem_filter.mp hk).1
    omega
  · have : (gapR n g).length ≤ (ups 0 n).length := List.length_filter_le _ _
    rwa [ups_len] at this
  · refine List.Pairwise.filter _ ?_
    have : ∀ (n : Nat) (a : Int), (ups a n).Pairwise (· < ·) := by
      intro n
      induction n with
      | zero => exact fun _ => .nil
      | succ n ih => exact fun a => .cons (fun k hk => by have := ups_mem _ _ _ hk; omega) (ih (a + 1))
    exact this n 0
theorem gap_comp {g : GM} {t : Ev → EM Bool} {f : Ev → EM D} {ρ : Ev} {π : Rt} (n : Nat) (k0 : Int) (h : ∀ k : Int, ∃ ρ', g (.int k) ρ = some ρ' ∧ t ρ' π = .ok (!decide (k = k0)) π ∧ f ρ' π = .ok (.int k) π) : compGo g t f ρ (rng 0 n) π = .ok ((gapR n k0).map D.int) π := by
  rw [rng_ups]
  exact ints_filter _ _ _ _ _ _ _ fun k _ => h k
/-- nothing can be left out -/
def leanB (r : Rule) (f : Int) (vs : List Turn) : Bool := (ups 0 vs.length).all fun g => !badR r f vs (gapR vs.length g)
abbrev judgeW : SM := sSeq (sSet 6 (eVal (eCall R_kept_steps (aCons (eVar 3) (aCons (eFrz (eComp (eCall rng1M (aCons (eCall lenM (aCons (eVar 3) aNil)) aNil)) (gN 5) (eT (eBin neM (eVar 5) (eVar 4))) (eVar 5) [5])) aNil))))) (sIf (tAnd_ (eT (eBin (isM true) (eVar 6) (eC .non))) (eT (eBin gtM (eCall maxM (aCons (eVal (eCall R_tops_of (aCons (eVar 0) (aCons (eVar 6) aNil)))) aNil)) (eVar 1)))) (sRet (eC (.bl false))) sNop)
theorem bad_room {r : Rule} {f : Int} {vs : List Turn} {row : List Int} : badR r f vs row = match keptF vs row with
  | some us => decide (f < roomS r us)
  | none => false := rfl
theorem judge_go (r : Rule) (f : Int) (v2 : D) {vs : List Turn} (hw : wfB 0 vs = true) (hl : vs.length ≤ 8) (π : Rt) : ∀ (gs : List Int) (x4 x6 : Option SV),
    ((gs.all fun g => !badR r f vs (gapR vs.length g)) = true → ∃ a b, forGo (gN 4) judgeW (gs.map D.int) [some (.dat (.str (ruleS r))), some (.dat (.int f)), some (.dat v2), some (.dat (.tup (vs.map trD))), x4, none, x6] π = .nx [some (.dat (.str (ruleS r))), some (.dat (.int f)), some (.dat v2), some (.dat (.tup (vs.map trD))), a, none, b] π) ∧
    ((gs.all fun g => !badR r f vs (gapR vs.length g)) = false → ∃ ρ', forGo (gN 4) judgeW (gs.map D.int) [some (.dat (.str (ruleS r))), some (.dat (.int f)), some (.dat v2), some (.dat (.tup (vs.map trD))), x4, none, x6] π = .ret (.dat (.bl false)) ρ' π)
  | [], x4, x6 => ⟨fun _ => ⟨_, _, rfl⟩, fun h => by cases h⟩
  | g :: gs, x4, x6 => by
    have hm : most = 1000000 := rfl
    obtain ⟨g1, g2, g3⟩ := gapR_ok (n := vs.length) (g := g)
    have e1 := kept_steps_ok hw (by omega) g1 (by omega) (d := .lst ((gapR vs.length g).map D.int)) (.inr rfl) π
    have c1 : compGo (gN 5) (eT (eBin neM (eVar 5) (eVar 4))) (eVar 5) [some (.dat (.str (ruleS r))), some (.dat (.int f)), some (.dat v2), some (.dat (.tup (vs.map trD))), some (.dat (.int g)), none, x6] (rng 0 vs.length) π = .ok ((gapR vs.length g).map D.int) π := gap_comp _ _ fun k => ⟨_, rfl, by simp, rfl⟩
    have hr1 := rng1_ok (n := vs.length) (by omega) π
    have hrl : (rng 0 vs.length).length ≤ most := by rw [rng_len]; omega
    have htl : ((vs.map trD).length : Int) = vs.length := by rw [List.length_map]
    have step : (badR r f vs (gapR vs.length g) = true → ∃ ρ', judgeW [some (.dat (.str (ruleS r))), some (.dat (.int f)), some (.dat v2), some (.dat (.tup (vs.map trD))), some (.dat (.int g)), none, x6] π = .ret (.dat (.bl false)) ρ' π) ∧ (badR r f vs (gapR vs.length g) = false → ∃ b, judgeW [some (.dat (.str (ruleS r))), some (.dat (.int f)), some (.dat v2), some (.dat (.tup (vs.map trD))), some (.dat (.int g)), none, x6] π = .nx [some (.dat (.str (ruleS r))), some (.dat (.int f)), some (.dat v2), some (.dat (.tup (vs.map trD))), some (.dat (.int g)), none, b] π) := by
      rw [bad_room]
      cases hk : keptF vs (gapR vs.length g) with
      | none =>
        rw [hk] at e1
        refine ⟨fun h => (by cases h), fun _ => ⟨some (.dat .non), ?_⟩⟩
        generalize (gapR vs.length g).map D.int = R0 at *
        generalize vs.map trD = T0 at *
        simp [htl, hr1, hrl, c1, e1, keptD, D.isNon]
      | some us =>
        rw [hk] at e1
        obtain ⟨w, l⟩ := kept_wf hw g1 g3 hk
        have e2 := tops_ok r w (by omega) π
        have e3 := max_tops r (us := us) π
        have ek : keptD (some us) = .tup (us.map trD) := rfl
        rw [ek] at e1
        generalize (gapR vs.length g).map D.int = R0 at *
        generalize vs.map trD = T0 at *
        generalize us.map trD = U0 at *
        generalize (0 :: topsS r s0 us).map D.int = T1 at *
        refine ⟨fun h => ?_, fun h => ?_⟩
        · have h : f < roomS r us := of_decide_eq_true h
          exact ⟨_, by simp [htl, hr1, hrl, c1, e1, e2, e3, h, D.isNon]; rfl⟩
        · have h : ¬ f < roomS r us := of_decide_eq_false h
          exact ⟨some (.dat (.tup U0)), by simp [htl, hr1, hrl, c1, e1, e2, e3, h, D.isNon]⟩
    rw [List.all_cons]
    cases hb : badR r f vs (gapR vs.length g) with
    | true =>
      obtain ⟨ρ', e⟩ := step.1 hb
      exact ⟨fun h => (by cases h), fun _ => ⟨ρ', by rw [List.map_cons, for_ret rfl e]⟩⟩
    | false =>
      obtain ⟨b, e⟩ := step.2 hb
      obtain ⟨p1, p2⟩ := judge_go r f v2 hw hl π gs (some (.dat (.int g))) b
      rw [Bool.not_false, Bool.true_and]
      refine ⟨fun h => ?_, fun h => ?_⟩
      · obtain ⟨a', b', e2⟩ := p1 h
        exact ⟨a', b', by rw [List.map_cons, for_cons rfl e, e2]⟩
      · obtain ⟨ρ', e2⟩ := p2 h
        exact ⟨ρ', by rw [List.map_cons, for_cons rfl e, e2]⟩
end G_k12

namespace G_k12
open PySem PySem.Spec PyProof.Rows L2 LamX DL
/-! is_core; cores are lean -/
theorem lv_snoc {n : Nat} : ∀ row : List Int, (∀ k ∈ row, 0 ≤ k ∧ k < (n : Int)) → row.Pairwise (· < ·) → row ∈ lv n row.length := by
  refine snoc_ind ?_ ?_
  · intro _ _
    exact List.mem_singleton.mpr rfl
  · intro xs x ih hr hs
    obtain ⟨s1, _, s3⟩ := List.pairwise_append.mp hs
    have := ih (fun k hk => hr k (List.mem_append_left _ hk)) s1
    rw [List.length_append]
    show xs ++ [x] ∈ (lv n xs.length).flatMap (extR n)
    refine List.mem_flatMap.mpr ⟨xs, this, ?_⟩
    have hx := hr x (by simp)
    have hst : startR xs ≤ x ∧ 0 ≤ startR xs := by
      unfold startR
      cases e : xs.getLast? with
      | none => exact ⟨hx.1, Int.le_refl _⟩
      | some a =>
        have ha := List.mem_of_getLast? e
        have h1 := s3 a ha x (List.mem_singleton.mpr rfl)
        have h2 := hr a (List.mem_append_left _ ha)
        exact ⟨by show a + 1 ≤ x; omega, by show 0 ≤ a + 1; omega⟩
    unfold extR
    exact List.mem_map.mpr ⟨x, mem_ups _ _ _ hst.1 (by omega), rfl⟩
theorem lv_sorts : ∀ n ∈ [1, 2, 3, 4, 5, 6], decide ((allLv n).Pairwise fun a b => a.length ≤ b.length) = true := by
  decide +kernel
theorem lv_sort6 {n : Nat} (h1 : 1 ≤ n) (h6 : n ≤ 6) : (allLv n).Pairwise fun a b => a.length ≤ b.length := by
  have := lv_sorts n (by
    have : n = 1 ∨ n = 2 ∨ n = 3 ∨ n = 4 ∨ n = 5 ∨ n = 6 := by omega
    rcases this with rfl | rfl | rfl | rfl | rfl | rfl <;> simp)
  exact of_decide_eq_true this
theorem gapR_lt {n : Nat} {g : Int} (h0 : 0 ≤ g) (h : g < n) : (gapR n g).length < n := by
  have : (gapR n g).length < (ups 0 n).length := List.length_filter_lt_length_iff_exists.mpr ⟨g, mem_ups _ _ _ h0 (by omega), by simp⟩
  rwa [ups_len] at this
theorem phi_lt {row : List Int} (hs : row.Pairwise (· < ·)) {p q : Int} (hp : 0 ≤ p) (hpq : p < q) (hq : q < row.length) : phi row p < phi row q := by
  have h1 : row[p.toNat]? = some (phi row p) := by
    unfold phi
    rw [List.getElem?_eq_getElem (by omega)]
    rfl
  have h2 : row[q.toNat]? = some (phi row q) := by
    unfold phi
    rw [List.getElem?_eq_getElem (by omega)]
    rfl
  obtain ⟨l1, e1⟩ := List.getElem?_eq_some_iff.mp h1
  obtain ⟨l2, e2⟩ := List.getElem?_eq_some_iff.mp h2
  have := List.pairwise_iff_getElem.mp hs p.toNat q.toNat l1 l2 (by omega)
  rwa [e1, e2] at this
theorem phi_mem {row : List Int} {p : Int} (hp : 0 ≤ p) (hq : p < row.length) : phi row p ∈ row := by
  have h1 : row[p.toNat]? = some (phi row p) := by
    unfold phi
    rw [List.getElem?_eq_getElem (by omega)]
    rfl
  exact List.mem_of_getElem? h1
theorem core_lean (r : Rule) {f : Int} {ts : List Turn} (hw : wfB 0 ts = true) (h1 : 1 ≤ ts.length) (h6 : ts.length ≤ 6) {row : List Int} {rest : List (List Int)} (hf : (allLv ts.length).filter (badR r f ts) = row :: rest) {us : List Turn} (e : keptF ts row = some us) : leanB r f us = true := by
  have hrow : row ∈ (allLv ts.length).filter (badR r f ts) := by rw [hf]; exact List.mem_cons_self
  obtain ⟨hr, hs, hrl⟩ := (lv_6 h1 h6).1 row (List.mem_filter.mp hrow).1
  obtain ⟨_, hul⟩ := kept_wf hw hr hs e
  refine List.all_eq_true.mpr fun g hg => ?_
  have hg := ups_mem _ _ _ hg
  rw [Bool.not_eq_true', Bool.eq_false_iff]
  intro hb
  obtain ⟨g1, g2, g3⟩ := gapR_ok (n := us.length) (g := g)
  have gl := gapR_lt (n := us.length) (g := g) hg.1 (by omega)
  have hc := kept_comp hw hr hs e (rowU := gapR us.length g) g1
  have hb2 : badR r f ts ((gapR us.length g).map (phi row)) = true := by
    rw [bad_room] at hb ⊢
    rw [← hc]
    exact hb
  have hin : ∀ k ∈ (gapR us.length g).map (phi row), 0 ≤ k ∧ k < (ts.length : Int) := fun k hk => by
    obtain ⟨i, hi, rfl⟩ := List.mem_map.mp hk
    have := g1 i hi
    exact hr _ (phi_mem this.1 (by omega))
  have hsr : ((gapR us.length g).map (phi row)).Pairwise (· < ·) := by
    rw [List.pairwise_map]
    refine List.Pairwise.imp_of_mem ?_ g3
    intro a b ha hb hab
    have := g1 a ha
    have := g1 b hb
    exact phi_lt hs (by omega) hab (by omega)
  have hm := lv_snoc _ hin hsr
  rw [List.length_map] at hm
  have hm := lv_mem (by omega) hm
  have hm2 : (gapR us.length g).map (phi row) ∈ (allLv ts.length).filter (badR r f ts) := List.mem_filter.mpr ⟨hm, hb2⟩
  have hp : ((allLv ts.length).filter (badR r f ts)).Pairwise fun a b => a.length ≤ b.length := (lv_sort6 h1 h6).filter _
  rw [hf] at hp hm2
  rcases List.mem_cons.mp hm2 with q | q
  · have := congrArg List.length q
    rw [List.length_map] at this
    omega
  · have := (List.pairwise_cons.mp hp).1 _ q
    rw [List.length_map] at this
    omega
theorem seq_ret {a b : SM} {ρ ρ1 : Ev} {π π1 : Rt} {rv : RV} (h : a ρ π = .ret rv ρ1 π1) : sSeq a b ρ π = .ret rv ρ1 π1 := by
  unfold sSeq
  rw [h]
theorem is_core_rule (f a b : D) (π : Rt) : R_is_core [.str "none", f, a, b] π = .ok (.dat (.bl false)) π := by
  have e2 : R_is_rule [.str "none"] π = .ok (.dat (.bl false)) π := by
    have e : inB (.str "none") [.str "first", .str "best", .str "worst", .str "last", .str "even"] = some false := by decide +kernel
    have e2 : ∀ π, inM false (.str "none") c_RULES π = .ok (.bl false) π := fun π => by
      show ofO ((inB (.str "none") [.str "first", .str "best", .str "worst", .str "last", .str "even"]).map fun b => D.bl b) π = _
      rw [e]
      rfl
    simp [R_is_rule, W_is_rule, e2]
  simp [R_is_core, W_is_core, e2]
theorem is_core_field (r : Rule) (a b : D) (π : Rt) : R_is_core [.str (ruleS r), .int (-1), a, b] π = .ok (.dat (.bl false)) π := by
  have e1 := rule_in r π
  have e2 := is_number_ok (d := .int (-1)) rfl 0 24 π
  rw [show isNum 0 24 (.int (-1)) = false from by decide +kernel] at e2
  simp [R_is_core, W_is_core, e1, e2, c_MOST_FIELD]
theorem is_core_no (r : Rule) {f : Int} (f0 : 0 ≤ f) (f1 : f ≤ 24) {ts : List Turn} (h : okProg ts) {m n : Nat} (hm : m ≤ 1000) {d : D} (hd : th m n d = true) (hv : isProg d = false) (π : Rt) : R_is_core [.str (ruleS r), .int f, .tup (ts.map trD), d] π = .ok (.dat (.bl false)) π := by
  have e1 := rule_in r π
  have e2 := is_number_ok (d := .int f) rfl 0 24 π
  rw [isNum_in f0 f1] at e2
  have e3 := is_program_ok (m := 10) (by decide) (prog_th (ts := ts) (m := 10) (by decide) (by have := h.2.2.2; omega)) π
  rw [(isProg_iff ts).mpr h] at e3
  have e4 := is_program_ok hm hd π
  rw [hv] at e4
  generalize ts.map trD = T0 at *
  simp [R_is_core, W_is_core, e1, e2, e3, e4, c_MOST_FIELD]
theorem is_core_yes (r : Rule) {f : Int} (f0 : 0 ≤ f) (f1 : f ≤ 24) {ts vs : List Turn} (h : okProg ts) (hb : f < roomS r ts) (hv : okProg vs) (π : Rt) : R_is_core [.str (ruleS r), .int f, .tup (ts.map trD), .tup (vs.map trD)] π = .ok (.dat (.bl (decide (f < roomS r vs) && leanB r f vs))) π := by
  have hm : most = 1000000 := rfl
  have e1 := rule_in r π
  have e2 := is_number_ok (d := .int f) rfl 0 24 π
  rw [isNum_in f0 f1] at e2
  have e3 := is_program_ok (m := 10) (by decide) (prog_th (ts := ts) (m := 10) (by decide) (by have := h.2.2.2; omega)) π
  rw [(isProg_iff ts).mpr h] at e3
  have e4 := is_program_ok (m := 10) (by decide) (prog_th (ts := vs) (m := 10) (by decide) (by have := hv.2.2.2; omega)) π
  rw [(isProg_iff vs).mpr hv] at e4
  have t1 := tops_ok r h.1 h.2.2.2 π
  have t2 := max_tops r (us := ts) π
  have t3 := tops_ok r hv.1 hv.2.2.2 π
  have t4 := max_tops r (us := vs) π
  have hle : ¬ roomS r ts ≤ f := by omega
  have hr1 := rng1_ok (n := vs.length) (by have := hv.2.2.2; omega) π
  have htl : ((vs.map trD).length : Int) = vs.length := by rw [List.length_map]
  obtain ⟨j1, j2⟩ := judge_go r f (.tup (ts.map trD)) hv.1 hv.2.2.2 π (ups 0 vs.length) none none
  rw [← rng_ups] at j1 j2
  rw [R_is_core, run_eq [some (.dat (.str (ruleS r))), some (.dat (.int f)), some (.dat (.tup (ts.map trD))), some (.dat (.tup (vs.map trD))), none, none, none] rfl]
  unfold W_is_core
  refine step_nx (P := fun o => outB o = .ok (.dat (.bl (decide (f < roomS r vs) && leanB r f vs))) π) (ρ1 := [some (.dat (.str (ruleS r))), some (.dat (.int f)), some (.dat (.tup (ts.map trD))), some (.dat (.tup (vs.map trD))), none, none, none]) (π1 := π) (by
    clear t1 t2 t3 t4 htl j1 j2
    generalize ts.map trD = T0 at *
    generalize vs.map trD = V0 at *
    simp [e1, e2, e3, e4, c_MOST_FIELD]) ?_
  by_cases hvr : f < roomS r vs
  · have hvl : ¬ roomS r vs ≤ f := by omega
    refine step_nx (P := fun o => outB o = .ok (.dat (.bl (decide (f < roomS r vs) && leanB r f vs))) π) (ρ1 := [some (.dat (.str (ruleS r))), some (.dat (.int f)), some (.dat (.tup (ts.map trD))), some (.dat (.tup (vs.map trD))), none, none, none]) (π1 := π) (by
      clear e3 e4 htl j1 j2
      generalize ts.map trD = T0 at *
      generalize vs.map trD = V0 at *
      generalize (0 :: topsS r s0 ts).map D.int = T1 at *
      generalize (0 :: topsS r s0 vs).map D.int = V1 at *
      simp [t1, t2, t3, t4, hle, hvl]) ?_
    rw [decide_eq_true hvr, Bool.true_and]
    have hlen : (eCall lenM (aCons (eVar 3) aNil) [some (.dat (.str (ruleS r))), some (.dat (.int f)), some (.dat (.tup (ts.map trD))), some (.dat (.tup (vs.map trD))), none, none, none] π) = .ok (.int vs.length) π := by
      rw [← htl]
      generalize vs.map trD = V0 at *
      simp
    cases hL : leanB r f vs with
    | true =>
      obtain ⟨a, b, e⟩ := j1 hL
      refine step_nx (P := fun o => outB o = .ok (.dat (.bl true)) π) (ρ1 := [some (.dat (.str (ruleS r))), some (.dat (.int f)), some (.dat (.tup (ts.map trD))), some (.dat (.tup (vs.map trD))), a, none, b]) (π1 := π) ?_ rfl
      refine for_items (ds := rng 0 vs.length) (π1 := π) ?_ e
      clear j1 j2 e hlen t3 e4
      generalize vs.map trD = V0 at *
      simp [htl, hr1]
    | false =>
      obtain ⟨ρ', e⟩ := j2 hL
      have : sFor (eCall rng1M (aCons (eCall lenM (aCons (eVar 3) aNil)) aNil)) (gN 4) judgeW [some (.dat (.str (ruleS r))), some (.dat (.int f)), some (.dat (.tup (ts.map trD))), some (.dat (.tup (vs.map trD))), none, none, none] π = .ret (.dat (.bl false)) ρ' π := by
        refine for_items (ds := rng 0 vs.length) (π1 := π) ?_ e
        clear j1 j2 e hlen t3 e4
        generalize vs.map trD = V0 at *
        simp [htl, hr1]
      show outB (sSeq _ _ _ _) = _
      rw [seq_ret this]
      rfl
  · have hvl : roomS r vs ≤ f := by omega
    rw [decide_eq_false hvr, Bool.false_and]
    show outB (sSeq _ _ _ _) = _
    clear e3 e4 htl j1 j2
    generalize ts.map trD = T0 at *
    generalize vs.map trD = V0 at *
    generalize (0 :: topsS r s0 ts).map D.int = T1 at *
    generalize (0 :: topsS r s0 vs).map D.int = V1 at *
    simp [t1, t2, t3, t4, hle, hvl]
end G_k12

namespace G_k12
open PySem PySem.Spec PyProof.Rows L2 LamX DL
/-! programs that the law draws -/
theorem wf_snoc : ∀ (ts : List Turn) (k : Nat) (t : Turn), wfB k ts = true → okS (k + askC ts) t → wfB k (ts ++ [t]) = true
  | [], k, t, _, h => by
    cases t with
    | ask n =>
      rw [List.nil_append, wfB, wfB, Bool.and_true, decide_eq_true_eq]
      exact h
    | lets j =>
      rw [List.nil_append, wfB, wfB, Bool.and_true, decide_eq_true_eq]
      exact h
  | .ask n :: ts, k, t, hw, h => by
    rw [wfB, Bool.and_eq_true] at hw
    rw [askC, show k + (askC ts + 1) = k + 1 + askC ts by omega] at h
    rw [List.cons_append, wfB, Bool.and_eq_true]
    exact ⟨hw.1, wf_snoc ts (k + 1) t hw.2 h⟩
  | .lets j :: ts, k, t, hw, h => by
    rw [wfB, Bool.and_eq_true] at hw
    rw [askC] at h
    rw [List.cons_append, wfB, Bool.and_eq_true]
    exact ⟨hw.1, wf_snoc ts k t hw.2 h⟩
theorem letsOf_app : ∀ (xs ys : List Turn), letsOf (xs ++ ys) = letsOf xs ++ letsOf ys
  | [], ys => rfl
  | .ask n :: xs, ys => letsOf_app xs ys
  | .lets j :: xs, ys => by
    show j :: letsOf (xs ++ ys) = j :: (letsOf xs ++ letsOf ys)
    rw [letsOf_app xs ys]
structure Drawn (ts : List Turn) (lefts : List Int) : Prop where
  wf : wfB 0 ts = true
  nd : (letsOf ts).Nodup
  ln : lefts.Nodup
  li : ∀ z ∈ lefts, (0 ≤ z ∧ z < (askC ts : Int)) ∧ z ∉ letsOf ts
  sm : ∀ n, Turn.ask n ∈ ts → 1 ≤ n ∧ n ≤ 4
theorem lets_small : ∀ (ts : List Turn) (k : Nat), wfB k ts = true → ∀ j ∈ letsOf ts, j < (k : Int) + askC ts
  | [], _, _, j, h => by cases h
  | .ask n :: ts, k, hw, j, h => by
    rw [wfB, Bool.and_eq_true] at hw
    have := lets_small ts (k + 1) hw.2 j h
    rw [askC]
    omega
  | .lets i :: ts, k, hw, j, h => by
    rw [wfB, Bool.and_eq_true, decide_eq_true_eq] at hw
    rw [askC]
    rcases List.mem_cons.mp h with q | q
    · omega
    · exact lets_small ts k hw.2 j q
theorem drawn_ask {ts : List Turn} {lefts : List Int} (h : Drawn ts lefts) {n : Int} (h1 : 1 ≤ n) (h4 : n ≤ 4) : Drawn (ts ++ [.ask n]) (lefts ++ [(askC ts : Int)]) := by
  obtain ⟨wf, nd, ln, li, sm⟩ := h
  have hs := askC_snoc ts (.ask n)
  have hs1 : askC [Turn.ask n] = 1 := rfl
  have hl : letsOf (ts ++ [.ask n]) = letsOf ts := by rw [letsOf_app]; exact List.append_nil _
  refine ⟨wf_snoc ts 0 _ wf (show 1 ≤ n ∧ n ≤ 24 from ⟨h1, by omega⟩), by rw [hl]; exact nd, ?_, fun z hz => ?_, fun m hm => ?_⟩
  · rw [List.nodup_append]
    refine ⟨ln, List.nodup_cons.mpr ⟨by simp, List.nodup_nil⟩, fun a ha b hb => ?_⟩
    cases List.mem_singleton.mp hb
    have := (li a ha).1
    omega
  · rw [hl]
    rcases List.mem_append.mp hz with q | q
    · have := li z q
      exact ⟨by omega, this.2⟩
    · cases List.mem_singleton.mp q
      refine ⟨by omega, fun c => ?_⟩
      have := lets_small ts 0 wf _ c
      omega
  · rcases List.mem_append.mp hm with q | q
    · exact sm m q
    · cases List.mem_singleton.mp q
      exact ⟨h1, h4⟩
theorem drawn_let {ts : List Turn} {lefts : List Int} (h : Drawn ts lefts) {i : Nat} {j : Int} (hj : lefts[i]? = some j) : Drawn (ts ++ [.lets j]) (lefts.eraseIdx i) := by
  obtain ⟨wf, nd, ln, li, sm⟩ := h
  have hs := askC_snoc ts (.lets j)
  have hs1 : askC [Turn.lets j] = 0 := rfl
  have hl : letsOf (ts ++ [.lets j]) = letsOf ts ++ [j] := by rw [letsOf_app]; rfl
  obtain ⟨li0, lej⟩ := List.getElem?_eq_some_iff.mp hj
  have hm : j ∈ lefts := List.mem_of_getElem? hj
  have q := li j hm
  refine ⟨wf_snoc ts 0 _ wf (show 0 ≤ j ∧ j < ((0 + askC ts : Nat) : Int) by omega), ?_, ln.sublist (List.eraseIdx_sublist _ _), fun z hz => ?_, fun m hm => ?_⟩
  · rw [hl, List.nodup_append]
    refine ⟨nd, List.nodup_cons.mpr ⟨by simp, List.nodup_nil⟩, fun a ha b hb => ?_⟩
    cases List.mem_singleton.mp hb
    intro e
    subst e
    exact q.2 ha
  · have hz2 := List.mem_of_mem_eraseIdx hz
    have p := li z hz2
    refine ⟨by omega, ?_⟩
    rw [hl]
    intro c
    rcases List.mem_append.mp c with c | c
    · exact p.2 c
    · cases List.mem_singleton.mp c
      obtain ⟨k, hk1, hk2⟩ := List.mem_eraseIdx_iff_getElem?.mp hz
      obtain ⟨lk, ek⟩ := List.getElem?_eq_some_iff.mp hk2
      exact hk1 ((List.getElem_inj ln).mp (ek.trans lej.symm))
  · rcases List.mem_append.mp hm with q | q
    · exact sm m q
    · cases List.mem_singleton.mp q
theorem ers_map {α β : Type} (f : α → β) : ∀ (xs : List α) (i : Nat), (xs.map f).eraseIdx i = (xs.eraseIdx i).map f
  | [], _ => rfl
  | x :: xs, 0 => rfl
  | x :: xs, i + 1 => by
    show f x :: (xs.map f).eraseIdx i = f x :: (xs.eraseIdx i).map f
    rw [ers_map f xs i]
theorem law_program_ok {π : Rt} (h : Pot π) {many : Nat} (hm : many ≤ 100) : ∃ (ts : List Turn) (lefts : List Int) (π' : Rt), R__law_program [.int many] π = .ok (.dat (.tup (ts.map trD))) π' ∧ Pot π' ∧ ts.length = many ∧ Drawn ts lefts := by
  have hmo : most = 1000000 := rfl
  have hr := rng1_ok (n := many) (by omega) π
  have hrl : (rng 0 many).length = many := by rw [rng_len]
  obtain ⟨ρ5, π5, e5, ⟨ts, lefts, x5, rfl, hd, hlen, hlf⟩, p5⟩ := forGo_cnt (g := gN 5) (s := (sIf (tAnd_ (eT (eBin neM (eVarB 3) (eFrz (eLst aNil)))) (eT (eBin eqM (eVal (eCall R__law_draw (aRoot 0 (aCons (eC (.int 3)) aNil)))) (eC (.int 0))))) (sAppPop 2 3 (eC (.str "let")) (eVal (eCall R__law_draw (aRoot 0 (aCons (eCall lenM (aCons (eVarB 3) aNil)) aNil))))) (sSeq (sMut 2 (eTup (aCons (eC (.str "ask")) (aCons (eBin addM (eC (.int 1)) (eVal (eCall R__law_draw (aRoot 0 (aCons (eC (.int 4)) aNil))))) aNil))) apF) (sSeq (sMut 3 (eVar 4) apF) (sSet 4 (eBin addM (eVar 4) (eC (.int 1)))))))) (I := fun j ρ π => (∃ ts lefts x5, ρ = [some .root, some (.dat (.int many)), some (.lst (ts.map trD)), some (.lst (lefts.map D.int)), some (.dat (.int (askC ts))), x5] ∧ Drawn ts lefts ∧ ts.length = j ∧ lefts.length ≤ j) ∧ Pot π) (rng 0 many) (rng 0 many) 0 [some .root, some (.dat (.int many)), some (.lst []), some (.lst []), some (.dat (.int 0)), none] π (by simp) ⟨⟨[], [], none, rfl, ⟨rfl, List.nodup_nil, List.nodup_nil, fun z hz => (by cases hz), fun n hn => (by cases hn)⟩, rfl, Nat.le_refl _⟩, h⟩ fun d j ρ π hj hI => by
    obtain ⟨⟨ts, lefts, x5, rfl, hd, hlen, hlf⟩, hp⟩ := hI
    rw [hrl] at hj
    have hem : eqB (.lst (lefts.map D.int)) (.lst []) = some (decide (lefts = [])) := eqB_ints lefts []
    have hll : ((lefts.map D.int).length : Int) = lefts.length := by rw [List.length_map]
    have hlm : (lefts.map D.int).length < most := by rw [List.length_map]; omega
    have htm : (ts.map trD).length < most := by rw [List.length_map]; omega
    obtain ⟨b, πb, ebt, pb, hb⟩ : ∃ (b : Bool) (πb : Rt), tAnd_ (eT (eBin neM (eVarB 3) (eFrz (eLst aNil)))) (eT (eBin eqM (eVal (eCall R__law_draw (aRoot 0 (aCons (eC (.int 3)) aNil)))) (eC (.int 0)))) [some .root, some (.dat (.int many)), some (.lst (ts.map trD)), some (.lst (lefts.map D.int)), some (.dat (.int (askC ts))), some (.dat d)] π = .ok b πb ∧ Pot πb ∧ (b = true → lefts ≠ []) := by
      by_cases c : lefts = []
      · subst c
        rw [decide_eq_true rfl] at hem
        refine ⟨false, π, ?_, hp, fun q => by cases q⟩
        have hem : eqB (.lst []) (.lst []) = some true := hem
        simp [neM, hem]
      · rw [decide_eq_false c] at hem
        obtain ⟨k, π1, e1, p1, _, _⟩ := draw_ok hp (many := 3) (by decide)
        refine ⟨decide (k = 0), π1, ?_, p1, fun _ => c⟩
        generalize lefts.map D.int = L0 at *
        simp [neM, hem, e1]
    cases b with
    | true =>
      have hne := hb rfl
      have hl0 : 0 < lefts.length := List.length_pos_iff.mpr hne
      obtain ⟨k, π1, e1, p1, k0, k1⟩ := draw_ok pb (many := lefts.length) (by omega)
      have k1 := k1 (by omega)
      have hg : lefts[k.toNat]? = some (lefts[k.toNat]'(by omega)) := List.getElem?_eq_getElem (by omega)
      generalize lefts[k.toNat]'(by omega) = z at hg
      have hpop : popF (lefts.map D.int) (.int k) = some (.int z, (lefts.eraseIdx k.toNat).map D.int) := by
        have hin : DL.inR k = true := by
          unfold DL.inR
          rw [Bool.and_eq_true]
          exact ⟨decide_eq_true (by omega), decide_eq_true (by omega)⟩
        have hix : ixN (lefts.map D.int).length k = some k.toNat := by
          unfold ixN
          rw [List.length_map]
          simp [k0, k1]
        unfold popF
        simp only [hin, if_true, hix, Option.bind_some, List.getElem?_map, hg, Option.map_some]
        rw [ers_map]
      refine ⟨[some .root, some (.dat (.int many)), some (.lst (ts.map trD)), some (.lst (lefts.map D.int)), some (.dat (.int (askC ts))), some (.dat d)], [some .root, some (.dat (.int many)), some (.lst ((ts ++ [Turn.lets z]).map trD)), some (.lst ((lefts.eraseIdx k.toNat).map D.int)), some (.dat (.int (askC ts))), some (.dat d)], π1, rfl, ?_, ⟨⟨ts ++ [Turn.lets z], lefts.eraseIdx k.toNat, some (.dat d), ?_, drawn_let hd hg, ?_, ?_⟩, p1⟩⟩
      · rw [List.map_append]
        have g1 : [Turn.lets z].map trD = [.tup [.str "let", .int z]] := rfl
        rw [g1]
        generalize (lefts.eraseIdx k.toNat).map D.int = L1 at *
        generalize lefts.map D.int = L0 at *
        generalize ts.map trD = T0 at *
        rw [← hll] at e1
        rw [r_if, ebt]
        simp [e1, hpop, htm]
      · have hs := askC_snoc ts (.lets z)
        have hs1 : askC [Turn.lets z] = 0 := rfl
        rw [hs, hs1, Nat.add_zero]
      · rw [List.length_append]
        simp
        exact hlen
      · have := List.length_eraseIdx_le lefts k.toNat
        omega
    | false =>
      obtain ⟨k, π1, e1, p1, k0, k1⟩ := draw_ok pb (many := 4) (by decide)
      have k1 := k1 (by decide)
      refine ⟨[some .root, some (.dat (.int many)), some (.lst (ts.map trD)), some (.lst (lefts.map D.int)), some (.dat (.int (askC ts))), some (.dat d)], [some .root, some (.dat (.int many)), some (.lst ((ts ++ [Turn.ask (1 + k)]).map trD)), some (.lst ((lefts ++ [(askC ts : Int)]).map D.int)), some (.dat (.int ((askC ts : Int) + 1))), some (.dat d)], π1, rfl, ?_, ⟨⟨ts ++ [Turn.ask (1 + k)], lefts ++ [(askC ts : Int)], some (.dat d), ?_, drawn_ask hd (by omega) (by omega), ?_, ?_⟩, p1⟩⟩
      · rw [List.map_append, List.map_append]
        have g1 : [Turn.ask (1 + k)].map trD = [.tup [.str "ask", .int (1 + k)]] := rfl
        have g2 : [(askC ts : Int)].map D.int = [.int (askC ts : Int)] := rfl
        rw [g1, g2]
        generalize lefts.map D.int = L0 at *
        generalize ts.map trD = T0 at *
        generalize (askC ts : Int) = A0 at *
        rw [r_if, ebt]
        simp [e1, htm, hlm, apF]
      · have hs := askC_snoc ts (.ask (1 + k))
        have hs1 : askC [Turn.ask (1 + k)] = 1 := rfl
        rw [hs, hs1, show ((askC ts + 1 : Nat) : Int) = (askC ts : Int) + 1 by omega]
      · rw [List.length_append]
        simp
        exact hlen
      · rw [List.length_append]
        simp
        exact hlf
  rw [hrl] at hlen
  have htm : (ts.map trD).length ≤ most := by rw [List.length_map]; omega
  refine ⟨ts, lefts, π5, ?_, p5, hlen, hd⟩
  rw [R__law_program, run_eq [some .root, some (.dat (.int many)), none, none, none, none] rfl]
  unfold W__law_program
  refine step_nx (P := fun o => outB o = .ok (.dat (.tup (ts.map trD))) π5) (ρ1 := [some .root, some (.dat (.int many)), some (.lst []), some (.lst []), none, none]) (π1 := π) (by simp) ?_
  refine step_nx (P := fun o => outB o = .ok (.dat (.tup (ts.map trD))) π5) (ρ1 := [some .root, some (.dat (.int many)), some (.lst []), some (.lst []), some (.dat (.int 0)), none]) (π1 := π) (by simp) ?_
  refine step_nx (P := fun o => outB o = .ok (.dat (.tup (ts.map trD))) π5) (ρ1 := [some .root, some (.dat (.int many)), some (.lst (ts.map trD)), some (.lst (lefts.map D.int)), some (.dat (.int (askC ts))), x5]) (π1 := π5) (for_items (ds := rng 0 many) (π1 := π) (by simp [hr]) e5) ?_
  generalize ts.map trD = T0 at *
  simp [htm]
end G_k12

namespace G_k12
open PySem PySem.Spec PyProof.Rows L2 LamX DL
/-! the room of programs that the law draws -/
theorem run_lay4 (r : Rule) : ∀ ts : List Turn, (∀ t ∈ ts, posT t) → (∀ n, Turn.ask n ∈ ts → 1 ≤ n ∧ n ≤ 4) → layP (4 * (askC ts : Int)) 0 (runS r ts).ps ∧ roomS r ts ≤ 4 * (askC ts : Int) := by
  refine snoc_ind (fun _ _ => ⟨trivial, by rw [room_nil]; decide⟩) fun xs x ih hp h => ?_
  obtain ⟨i1, i2⟩ := ih (fun t ht => hp t (List.mem_append_left _ ht)) fun n hn => h n (List.mem_append_left _ hn)
  have hs := askC_snoc xs x
  have key : layP (4 * (askC (xs ++ [x]) : Int)) 0 (runS r (xs ++ [x])).ps := by
    rw [runS_snoc]
    cases x with
    | ask n =>
      have hn := h n (by simp)
      have hs1 : askC [Turn.ask n] = 1 := rfl
      obtain ⟨f1, f2, f3⟩ := place_facts r i1 hn.1
      have hend : endP 0 (runS r xs).ps ≤ 4 * (askC xs : Int) := endP_le _ 0 (by omega) i1
      have hst : (4 * (askC xs : Int)) % strideP n = 0 := by
        unfold strideP
        repeat' split
        all_goals omega
      have hpl : placeP r (runS r xs).ps n ≤ 4 * (askC xs : Int) := by
        rcases f3 with f3 | ⟨_, _, f3⟩
        · omega
        · exact f3 _ hend hst
      exact layP_sort (layP_mono (by omega) _ 0 i1) f2 (by omega) (by omega) f1
    | lets j =>
      exact layP_mono (by omega) _ 0 (layP_filter _ _ 0 i1)
  refine ⟨key, ?_⟩
  have he := endP_le _ 0 (by omega) key
  have e : roomS r (xs ++ [x]) = maxL (0 :: (topsS r s0 xs ++ [endP 0 (runS r (xs ++ [x])).ps])) := by
    unfold roomS
    rw [topsS_snoc, runS_snoc]
    rfl
  have e2 : roomS r xs = maxL (0 :: topsS r s0 xs) := rfl
  rw [e, maxL_snoc, ← e2]
  split <;> omega
theorem maxL_ge : ∀ (xs : List Int) (x y : Int), y = x ∨ y ∈ xs → y ≤ maxL (x :: xs)
  | [], x, y, h => by
    rcases h with h | h
    · rw [h]
      exact Int.le_refl _
    · cases h
  | z :: xs, x, y, h => by
    have e : maxL (x :: z :: xs) = maxL ((if x < z then z else x) :: xs) := rfl
    rw [e]
    have a := maxL_ge xs (if x < z then z else x) (if x < z then z else x) (.inl rfl)
    rcases h with h | h
    · subst h
      split at a <;> split <;> omega
    · rcases List.mem_cons.mp h with h | h
      · subst h
        split at a <;> split <;> omega
      · exact maxL_ge xs _ y (.inr h)
theorem room_pos (r : Rule) {ts : List Turn} (hw : wfB 0 ts = true) (h1 : 1 ≤ ts.length) : 1 ≤ roomS r ts := by
  cases ts with
  | nil => simp at h1
  | cons t ts =>
    cases t with
    | lets j =>
      rw [wfB, Bool.and_eq_true, decide_eq_true_eq] at hw
      omega
    | ask n =>
      rw [wfB, Bool.and_eq_true, decide_eq_true_eq] at hw
      obtain ⟨f1, f2, f3⟩ := place_facts r (hi := 0) (ps := []) trivial hw.1.1
      have e : (stS r s0 (.ask n)).ps = [(placeP r [] n, n)] := by
        show sortP ([] ++ [(placeP r [] n, n)]) = _
        rw [List.nil_append]
        exact List.mergeSort_singleton _
      have e2 : endP 0 (stS r s0 (.ask n)).ps = placeP r [] n + n := by
        rw [e]
        rfl
      have : endP 0 (stS r s0 (.ask n)).ps ≤ roomS r (.ask n :: ts) := maxL_ge _ _ _ (.inr (by rw [topsS]; exact List.mem_cons_self))
      omega
theorem drawn_room (r : Rule) {ts : List Turn} {lefts : List Int} (h : Drawn ts lefts) (h1 : 1 ≤ ts.length) (h6 : ts.length ≤ 6) : 1 ≤ roomS r ts ∧ roomS r ts ≤ 24 ∧ okProg ts := by
  have := (run_lay4 r ts (wf_pos ts 0 h.wf) h.sm).2
  have := askC_le ts
  exact ⟨room_pos r h.wf h1, by omega, h.wf, h.nd, h1, by omega⟩
theorem wf_ts : ∀ (ts : List Turn) (k : Nat), wfB k ts = true → k + ts.length ≤ 100 → ∀ t ∈ ts, tsB 30 1 (trD t) = true
  | [], _, _, _, t, h => by cases h
  | .ask n :: ts, k, hw, hl, t, h => by
    rw [wfB, Bool.and_eq_true, decide_eq_true_eq] at hw
    rw [List.length_cons] at hl
    rcases List.mem_cons.mp h with q | q
    · subst q
      refine ts_tup.mpr ⟨by show 2 ≤ 30; decide, fun x hx => ?_⟩
      simp only [List.mem_cons, List.mem_nil_iff, or_false] at hx
      rcases hx with rfl | rfl
      · decide +kernel
      · show decide (n.natAbs < 2 ^ 64) = true
        rw [decide_eq_true_eq]
        omega
    · exact wf_ts ts (k + 1) hw.2 (by omega) t q
  | .lets n :: ts, k, hw, hl, t, h => by
    rw [wfB, Bool.and_eq_true, decide_eq_true_eq] at hw
    rw [List.length_cons] at hl
    rcases List.mem_cons.mp h with q | q
    · subst q
      refine ts_tup.mpr ⟨by show 2 ≤ 30; decide, fun x hx => ?_⟩
      simp only [List.mem_cons, List.mem_nil_iff, or_false] at hx
      rcases hx with rfl | rfl
      · decide +kernel
      · show decide (n.natAbs < 2 ^ 64) = true
        rw [decide_eq_true_eq]
        omega
    · exact wf_ts ts k hw.2 (by omega) t q
theorem prog_ts {ts : List Turn} (h : okProg ts) : tsB 30 2 (.tup (ts.map trD)) = true := by
  have := h.2.2.2
  refine ts_tup.mpr ⟨by rw [List.length_map]; omega, fun x hx => ?_⟩
  obtain ⟨t, ht, rfl⟩ := List.mem_map.mp hx
  exact wf_ts ts 0 h.1 (by omega) t ht
end G_k12

namespace G_k12
open PySem PySem.Spec PyProof.Rows L2 LamX DL
/-! the law's judgement of one value -/
theorem if_no {t : Ev → EM Bool} {s u : SM} {ρ : Ev} {π π1 : Rt} (h : t ρ π = .ok false π1) : sIf t s u ρ π = u ρ π1 := by
  rw [r_if, h]
  rfl
theorem if_noP {P : SO → Prop} {t : Ev → EM Bool} {s u : SM} {ρ : Ev} {π π1 : Rt} (h : t ρ π = .ok false π1) (k : P (u ρ π1)) : P (sIf t s u ρ π) := by
  rw [if_no h]
  exact k
theorem if_yes {t : Ev → EM Bool} {s u : SM} {ρ : Ev} {π π1 : Rt} (h : t ρ π = .ok true π1) : sIf t s u ρ π = s ρ π1 := by
  rw [r_if, h]
  rfl
theorem lr_ok {n : Nat} (h : n ≤ 1000) (π : Rt) : lrM (.int 0) (.int n) π = .ok (rng 0 n) π := by
  have hm : most = 1000000 := rfl
  show (if DL.inR 0 && DL.inR (n : Int) && decide (((n : Int) - 0).toNat ≤ most) then pure (rng 0 ((n : Int) - 0).toNat) else EM.bad : EM (List D)) π = _
  have e : ((n : Int) - 0).toNat = n := by omega
  have hi : DL.inR (n : Int) = true := inR_most (by omega)
  rw [e, hi, show DL.inR 0 = true from by decide, decide_eq_true (show n ≤ most by omega)]
  rfl
abbrev oneW : SM := (sSeq (sSet 13 (eVal (eCall R__law_left (aCons (eVar 9) (aCons (eFrz (eComp (eCall rng1M (aCons (eCall lenM (aCons (eVar 9) aNil)) aNil)) (gN 12) (eT (eBin neM (eVar 12) (eVar 11))) (eVar 12) [12])) aNil))))) (sSet 10 (eAnd (eVar 10) (eOr (eBin (isM false) (eVar 13) (eC .non)) (eBin leM (eVal (eCall R__law_room (aCons (eVar 3) (aCons (eVar 13) aNil)))) (eVar 6))))))
abbrev midW : SM := (sIf (eT (eBin leM (eVar 5) (eVar 6))) (sIf (tNot_ (eT (eRaises hsR "NotThere" (eVal (eCall R_core (aCons (eVar 3) (aCons (eVar 6) (aCons (eVar 4) aNil)))))))) (sRet (eC (.bl false))) sNop) (sIf (tNot_ (eT (eVal (eCall (R__law_same 12) (aCons (eVal (eCall R_core (aCons (eVar 3) (aCons (eVar 6) (aCons (eVar 4) aNil))))) (aCons (eVal (eCall R__law_left (aCons (eVar 4) (aCons (eBin ixM (eVar 8) (eC (.int 0))) aNil)))) aNil)))))) (sRet (eC (.bl false))) (sSeq (sSet 9 (eVal (eCall (R__law_bent 12) (aRoot 1 (aCons (eVal (eCall R__law_left (aCons (eVar 4) (aCons (eVal (eCall R__law_pick (aRoot 1 (aCons (eVar 8) aNil)))) aNil)))) (aCons (eC (.int 2)) aNil)))))) (sSeq (sSet 10 (eAnd (eVal (eCall R_is_program (aCons (eVar 9) aNil))) (eBin gtM (eVal (eCall R__law_room (aCons (eVar 3) (aCons (eVar 9) aNil)))) (eVar 6)))) (sSeq (sFor (eItems (eIf (eT (eVar 10)) (eFrz (eBinF lrM (eC (.int 0)) (eCall lenM (aCons (eVar 9) aNil)))) (eFrz (eLst aNil)))) (gN 11) (sSeq (sSet 13 (eVal (eCall R__law_left (aCons (eVar 9) (aCons (eFrz (eComp (eCall rng1M (aCons (eCall lenM (aCons (eVar 9) aNil)) aNil)) (gN 12) (eT (eBin neM (eVar 12) (eVar 11))) (eVar 12) [12])) aNil))))) (sSet 10 (eAnd (eVar 10) (eOr (eBin (isM false) (eVar 13) (eC .non)) (eBin leM (eVal (eCall R__law_room (aCons (eVar 3) (aCons (eVar 13) aNil)))) (eVar 6))))))) (sSeq (sIf (tNot_ (eT (eVal (eCall (R__law_same 12) (aCons (eVal (eCall R_is_core (aCons (eVar 3) (aCons (eVar 6) (aCons (eVar 4) (aCons (eVar 9) aNil)))))) (aCons (eVar 10) aNil)))))) (sRet (eC (.bl false))) sNop) (sIf (tNot_ (eT (eVal (eCall R_is_core (aCons (eVar 3) (aCons (eVar 6) (aCons (eVar 4) (aCons (eVal (eCall R_core (aCons (eVar 3) (aCons (eVar 6) (aCons (eVar 4) aNil))))) aNil)))))))) (sRet (eC (.bl false))) sNop)))))))
theorem one_go (r : Rule) (f : Int) {vs : List Turn} (hw : wfB 0 vs = true) (hl : vs.length ≤ 8) (e0 e2 e4 e5 e7 e8 x12 : Option SV) (π : Rt) : ∀ (gs : List Int) (b : Bool) (x11 x13 : Option SV), ∃ a c, forGo (gN 11) oneW (gs.map D.int) [e0, some .root, e2, some (.dat (.str (ruleS r))), e4, e5, some (.dat (.int f)), e7, e8, some (.dat (.tup (vs.map trD))), some (.dat (.bl b)), x11, x12, x13] π = .nx [e0, some .root, e2, some (.dat (.str (ruleS r))), e4, e5, some (.dat (.int f)), e7, e8, some (.dat (.tup (vs.map trD))), some (.dat (.bl (b && gs.all fun g => !badR r f vs (gapR vs.length g)))), a, x12, c] π
  | [], b, x11, x13 => ⟨x11, x13, by rw [List.all_nil, Bool.and_true]; rfl⟩
  | g :: gs, b, x11, x13 => by
    have hm : most = 1000000 := rfl
    obtain ⟨g1, g2, g3⟩ := gapR_ok (n := vs.length) (g := g)
    have q1 := law_left_ok hw (by omega) g1 (by omega) (d := .lst ((gapR vs.length g).map D.int)) (.inr rfl) π
    have c1 : compGo (gN 12) (eT (eBin neM (eVar 12) (eVar 11))) (eVar 12) [e0, some .root, e2, some (.dat (.str (ruleS r))), e4, e5, some (.dat (.int f)), e7, e8, some (.dat (.tup (vs.map trD))), some (.dat (.bl b)), some (.dat (.int g)), none, x13] (rng 0 vs.length) π = .ok ((gapR vs.length g).map D.int) π := gap_comp _ _ fun k => ⟨_, rfl, by simp, rfl⟩
    have hr1 := rng1_ok (n := vs.length) (by omega) π
    have hrl : (rng 0 vs.length).length ≤ most := by rw [rng_len]; omega
    have htl : ((vs.map trD).length : Int) = vs.length := by rw [List.length_map]
    have step : ∃ c, oneW [e0, some .root, e2, some (.dat (.str (ruleS r))), e4, e5, some (.dat (.int f)), e7, e8, some (.dat (.tup (vs.map trD))), some (.dat (.bl b)), some (.dat (.int g)), x12, x13] π = .nx [e0, some .root, e2, some (.dat (.str (ruleS r))), e4, e5, some (.dat (.int f)), e7, e8, some (.dat (.tup (vs.map trD))), some (.dat (.bl (b && !badR r f vs (gapR vs.length g)))), some (.dat (.int g)), x12, c] π := by
      rw [bad_room]
      cases hk : keptF vs (gapR vs.length g) with
      | none =>
        rw [hk] at q1
        refine ⟨some (.dat .non), ?_⟩
        generalize (gapR vs.length g).map D.int = R0 at *
        generalize vs.map trD = T0 at *
        cases b <;> simp [htl, hr1, hrl, c1, q1, keptD, D.isNon]
      | some us =>
        rw [hk] at q1
        obtain ⟨w, l⟩ := kept_wf hw g1 g3 hk
        have q2 := law_room_ok r w (by omega) π
        have ek : keptD (some us) = .tup (us.map trD) := rfl
        rw [ek] at q1
        have hd : (!decide (f < roomS r us)) = decide (roomS r us ≤ f) := by
          by_cases q : f < roomS r us
          · rw [decide_eq_true q, decide_eq_false (by omega)]
            rfl
          · rw [decide_eq_false q, decide_eq_true (by omega)]
            rfl
        refine ⟨some (.dat (.tup (us.map trD))), ?_⟩
        simp only [hd]
        generalize (gapR vs.length g).map D.int = R0 at *
        generalize vs.map trD = T0 at *
        generalize us.map trD = U0 at *
        cases b <;> simp [htl, hr1, hrl, c1, q1, q2, D.isNon]
    obtain ⟨c, e⟩ := step
    obtain ⟨a2, c2, e2⟩ := one_go r f hw hl e0 e2 e4 e5 e7 e8 x12 π gs (b && !badR r f vs (gapR vs.length g)) (some (.dat (.int g))) c
    refine ⟨a2, c2, ?_⟩
    rw [List.map_cons, for_cons rfl e, e2, List.all_cons, Bool.and_assoc]
theorem raise_of (c : Str) (fs : List (Str × D)) (hc : c = "NoPrograms" ∨ c = "NotThere") : hR hsR ⟨c, fs⟩ = some c := by
  rcases hc with rfl | rfl <;> kernel_rfl
theorem bad_all (r : Rule) {f : Int} (f0 : 0 ≤ f) {ts : List Turn} (h : okProg ts) (h6 : ts.length ≤ 6) {z : List Int} (hz : z ∈ (allLv ts.length).filter (badR r f ts)) : ((∀ k ∈ z, 0 ≤ k ∧ k < (ts.length : Int)) ∧ z.length ≤ 100) ∧ ∃ us, keptF ts z = some us ∧ okProg us ∧ f < roomS r us ∧ us.length ≤ 8 := by
  obtain ⟨m1, m2⟩ := List.mem_filter.mp hz
  obtain ⟨a1, a2, a3⟩ := (lv_6 h.2.2.1 h6).1 z m1
  rw [bad_room] at m2
  cases e : keptF ts z with
  | none =>
    rw [e] at m2
    cases m2
  | some us =>
    rw [e] at m2
    have m2 : f < roomS r us := of_decide_eq_true m2
    have hne : z ≠ [] := fun q => by
      subst q
      cases e
      rw [room_nil] at m2
      omega
    have hp := kept_prog h a1 a2 hne e (by omega)
    exact ⟨⟨a1, by omega⟩, us, rfl, hp, m2, hp.2.2.2⟩
theorem mid_ok (r : Rule) {f : Int} (f0 : 0 ≤ f) (f1 : f ≤ 24) {ts : List Turn} (h : okProg ts) (h6 : ts.length ≤ 6) {π : Rt} (hp : Pot π) (e0 e2 e7 e9 e10 e11 e12 e13 : Option SV) : ∃ y9 y10 y11 y13 π', midW [e0, some .root, e2, some (.dat (.str (ruleS r))), some (.dat (.tup (ts.map trD))), some (.dat (.int (roomS r ts))), some (.dat (.int f)), e7, some (.dat (.lst (((allLv ts.length).filter (badR r f ts)).map rowD))), e9, e10, e11, e12, e13] π = .nx [e0, some .root, e2, some (.dat (.str (ruleS r))), some (.dat (.tup (ts.map trD))), some (.dat (.int (roomS r ts))), some (.dat (.int f)), e7, some (.dat (.lst (((allLv ts.length).filter (badR r f ts)).map rowD))), y9, y10, y11, e12, y13] π' ∧ Pot π' := by
  by_cases hb : f < roomS r ts
  case neg =>
    have q1 := core_no r f0 f1 h hb π
    have hle : roomS r ts ≤ f := by omega
    refine ⟨e9, e10, e11, e13, π, ?_, hp⟩
    generalize ((allLv ts.length).filter (badR r f ts)).map rowD = B0 at *
    generalize ts.map trD = T0 at *
    simp [q1, hle, kRaises_exc (raise_of _ _ (.inr rfl))]
  case pos =>
    have hm : most = 1000000 := rfl
    have hle : ¬ roomS r ts ≤ f := by omega
    obtain ⟨row, rest, hfind, hfil, _⟩ := first_bad r f0 h.1 h.2.2.1 h6 hb
    have hrow : row ∈ (allLv ts.length).filter (badR r f ts) := by rw [hfil]; exact List.mem_cons_self
    obtain ⟨⟨z1, z2⟩, us, ek, hu, hru, hu8⟩ := bad_all r f0 h h6 hrow
    have q1 := fun π => core_ok r f0 f1 h h6 hb hfind π
    have q2 := fun π => law_left_ok h.1 (by have := h.2.2.2; omega) z1 z2 (d := rowD row) (.inl rfl) π
    rw [ek] at q1 q2
    have ek2 : keptD (some us) = .tup (us.map trD) := rfl
    rw [ek2] at q1 q2
    have q3 := same_refl 11 (.tup (us.map trD)) π (fine_trs 9 _ (by omega))
    have hlean := core_lean r h.1 h.2.2.1 h6 hfil ek
    have q4 := fun π => is_core_yes r f0 f1 h hb hu π
    rw [hlean, decide_eq_true hru] at q4
    have hlen : ((allLv ts.length).filter (badR r f ts)).length < 1000000 := by
      have a := List.length_filter_le (badR r f ts) (allLv ts.length)
      obtain ⟨_, r2, _, r4⟩ := rows_6 h.2.2.1 h6
      rw [r2.length_eq] at a
      omega
    obtain ⟨dz, hdz, π1, q5, p1⟩ := pick_ok hp (row := ((allLv ts.length).filter (badR r f ts)).map rowD) (by rw [hfil]; simp) (by rw [List.length_map]; exact hlen)
    obtain ⟨z, hz, rfl⟩ := List.mem_map.mp hdz
    obtain ⟨⟨y1, y2⟩, ws, ew, hwp, _, _⟩ := bad_all r f0 h h6 hz
    have q6 := law_left_ok h.1 (by have := h.2.2.2; omega) y1 y2 (d := rowD z) (.inl rfl) π1
    rw [ew] at q6
    have ew2 : keptD (some ws) = .tup (ws.map trD) := rfl
    rw [ew2] at q6
    obtain ⟨v, π2, q7, p2, tv⟩ := bent_okS (m := 30) (by decide) (by decide) 2 12 2 (.tup (ws.map trD)) (by decide) (prog_ts hwp) π1 p1
    have q7 : R__law_bent 12 [.tup (ws.map trD), .int 2] π1 = .ok (.dat v) π2 := q7
    have a1 : atI (((allLv ts.length).filter (badR r f ts)).map rowD) 0 = some (rowD row) := by
      rw [hfil]
      exact nat_atI (k := 0) rfl
    let PP : SO → Prop := fun o => ∃ y9 y10 y11 y13 π', o = .nx [e0, some .root, e2, some (.dat (.str (ruleS r))), some (.dat (.tup (ts.map trD))), some (.dat (.int (roomS r ts))), some (.dat (.int f)), e7, some (.dat (.lst (((allLv ts.length).filter (badR r f ts)).map rowD))), y9, y10, y11, e12, y13] π' ∧ Pot π'
    show PP _
    refine if_noP (P := PP) (π1 := π) (by simp [hle]) ?_
    have hbl : (((allLv ts.length).filter (badR r f ts)).map rowD).length ≤ most := by rw [List.length_map]; omega
    have hTm : (ts.map trD).length ≤ most := by rw [List.length_map]; have := h.2.2.2; omega
    have hd0 : R_is_program [v] π2 = .ok (.dat (.bl (isProg v))) π2 := is_program_ok (m := 31) (by decide) tv π2
    let B0 := ((allLv ts.length).filter (badR r f ts)).map rowD
    refine if_noP (P := PP) (π1 := π) (by
      generalize ((allLv ts.length).filter (badR r f ts)).map rowD = B1 at *
      clear q4 q6 q7
      generalize us.map trD = U0 at *
      generalize rowD row = w0 at *
      generalize ts.map trD = T0 at *
      simp [q1, q2, q3, a1]) ?_
    refine step_nx (P := PP) (ρ1 := [e0, some .root, e2, some (.dat (.str (ruleS r))), some (.dat (.tup (ts.map trD))), some (.dat (.int (roomS r ts))), some (.dat (.int f)), e7, some (.dat (.lst (((allLv ts.length).filter (badR r f ts)).map rowD))), some (.dat v), e10, e11, e12, e13]) (π1 := π2) (by
      generalize ((allLv ts.length).filter (badR r f ts)).map rowD = B1 at *
      clear q4 q1 q2 q3
      generalize ws.map trD = U0 at *
      generalize rowD z = w0 at *
      generalize ts.map trD = T0 at *
      simp [q5, q6, q7]) ?_
    have last : ∀ (b : D) (y11 y13 : Option SV), sIf (tNot_ (eT (eVal (eCall R_is_core (aCons (eVar 3) (aCons (eVar 6) (aCons (eVar 4) (aCons (eVal (eCall R_core (aCons (eVar 3) (aCons (eVar 6) (aCons (eVar 4) aNil))))) aNil)))))))) (sRet (eC (.bl false))) sNop [e0, some .root, e2, some (.dat (.str (ruleS r))), some (.dat (.tup (ts.map trD))), some (.dat (.int (roomS r ts))), some (.dat (.int f)), e7, some (.dat (.lst (((allLv ts.length).filter (badR r f ts)).map rowD))), some (.dat v), some (.dat b), y11, e12, y13] π2 = .nx [e0, some .root, e2, some (.dat (.str (ruleS r))), some (.dat (.tup (ts.map trD))), some (.dat (.int (roomS r ts))), some (.dat (.int f)), e7, some (.dat (.lst (((allLv ts.length).filter (badR r f ts)).map rowD))), some (.dat v), some (.dat b), y11, e12, y13] π2 := fun b y11 y13 => by
      generalize ((allLv ts.length).filter (badR r f ts)).map rowD = B1 at *
      clear q2 q3 q5 q6 q7
      generalize us.map trD = U0 at *
      generalize ts.map trD = T0 at *
      simp [q1, q4]
    have q8 : ∀ b : Bool, R__law_same 12 [.bl b, .bl b] π2 = .ok (.dat (.bl true)) π2 := fun b => same_refl 11 (.bl b) π2 (fine_bl _ _)
    cases hv : isProg v with
    | false =>
      rw [hv] at hd0
      have q9 := is_core_no r f0 f1 h (m := 31) (by decide) tv hv π2
      refine step_nx (P := PP) (ρ1 := [e0, some .root, e2, some (.dat (.str (ruleS r))), some (.dat (.tup (ts.map trD))), some (.dat (.int (roomS r ts))), some (.dat (.int f)), e7, some (.dat (.lst (((allLv ts.length).filter (badR r f ts)).map rowD))), some (.dat v), some (.dat (.bl false)), e11, e12, e13]) (π1 := π2) (by simp [hd0]) ?_
      refine step_nx (P := PP) (ρ1 := [e0, some .root, e2, some (.dat (.str (ruleS r))), some (.dat (.tup (ts.map trD))), some (.dat (.int (roomS r ts))), some (.dat (.int f)), e7, some (.dat (.lst (((allLv ts.length).filter (badR r f ts)).map rowD))), some (.dat v), some (.dat (.bl false)), e11, e12, e13]) (π1 := π2) (for_items (ds := []) (π1 := π2) (by simp) rfl) ?_
      refine step_nx (P := PP) (ρ1 := [e0, some .root, e2, some (.dat (.str (ruleS r))), some (.dat (.tup (ts.map trD))), some (.dat (.int (roomS r ts))), some (.dat (.int f)), e7, some (.dat (.lst (((allLv ts.length).filter (badR r f ts)).map rowD))), some (.dat v), some (.dat (.bl false)), e11, e12, e13]) (π1 := π2) (by
        generalize ((allLv ts.length).filter (badR r f ts)).map rowD = B1 at *
        generalize ts.map trD = T0 at *
        simp [q9, q8]) ?_
      exact ⟨_, _, _, _, π2, last _ _ _, p2⟩
    | true =>
      rw [hv] at hd0
      obtain ⟨vs, rfl, hvw, _, hv8⟩ := isProg_ex hv
      have hvp := (isProg_iff vs).mp hv
      have q9 := is_core_yes r f0 f1 h hb hvp π2
      have r1 := law_room_ok r hvw hv8 π2
      have hTv : (vs.map trD).length ≤ most := by rw [List.length_map]; omega
      have htl : ((vs.map trD).length : Int) = vs.length := by rw [List.length_map]
      have hrl : (rng 0 vs.length).length ≤ most := by rw [rng_len]; omega
      refine step_nx (P := PP) (ρ1 := [e0, some .root, e2, some (.dat (.str (ruleS r))), some (.dat (.tup (ts.map trD))), some (.dat (.int (roomS r ts))), some (.dat (.int f)), e7, some (.dat (.lst (((allLv ts.length).filter (badR r f ts)).map rowD))), some (.dat (.tup (vs.map trD))), some (.dat (.bl (decide (f < roomS r vs)))), e11, e12, e13]) (π1 := π2) (by
        generalize ((allLv ts.length).filter (badR r f ts)).map rowD = B1 at *
        clear last q9 htl hTv
        generalize vs.map trD = V0 at *
        simp [hd0, r1]) ?_
      by_cases hvr : f < roomS r vs
      case neg =>
        rw [decide_eq_false hvr] at q9 ⊢
        rw [Bool.false_and] at q9
        refine step_nx (P := PP) (ρ1 := [e0, some .root, e2, some (.dat (.str (ruleS r))), some (.dat (.tup (ts.map trD))), some (.dat (.int (roomS r ts))), some (.dat (.int f)), e7, some (.dat (.lst (((allLv ts.length).filter (badR r f ts)).map rowD))), some (.dat (.tup (vs.map trD))), some (.dat (.bl false)), e11, e12, e13]) (π1 := π2) (for_items (ds := []) (π1 := π2) (by simp) rfl) ?_
        refine step_nx (P := PP) (ρ1 := [e0, some .root, e2, some (.dat (.str (ruleS r))), some (.dat (.tup (ts.map trD))), some (.dat (.int (roomS r ts))), some (.dat (.int f)), e7, some (.dat (.lst (((allLv ts.length).filter (badR r f ts)).map rowD))), some (.dat (.tup (vs.map trD))), some (.dat (.bl false)), e11, e12, e13]) (π1 := π2) (by
          generalize ((allLv ts.length).filter (badR r f ts)).map rowD = B1 at *
          clear last hd0 r1 htl hTv tv q7
          generalize ts.map trD = T0 at *
          generalize vs.map trD = V0 at *
          simp [q9, q8]) ?_
        exact ⟨_, _, _, _, π2, last _ _ _, p2⟩
      case pos =>
        rw [decide_eq_true hvr] at q9 ⊢
        rw [Bool.true_and] at q9
        obtain ⟨a, c, e⟩ := one_go r f hvw hv8 e0 e2 (some (.dat (.tup (ts.map trD)))) (some (.dat (.int (roomS r ts)))) e7 (some (.dat (.lst (((allLv ts.length).filter (badR r f ts)).map rowD)))) e12 π2 (ups 0 vs.length) true e11 e13
        rw [← rng_ups, Bool.true_and] at e
        refine step_nx (P := PP) (ρ1 := [e0, some .root, e2, some (.dat (.str (ruleS r))), some (.dat (.tup (ts.map trD))), some (.dat (.int (roomS r ts))), some (.dat (.int f)), e7, some (.dat (.lst (((allLv ts.length).filter (badR r f ts)).map rowD))), some (.dat (.tup (vs.map trD))), some (.dat (.bl (leanB r f vs))), a, e12, c]) (π1 := π2) (for_items (ds := rng 0 vs.length) (π1 := π2) (by
          have hlr : lrM (.int 0) (.int vs.length) π2 = .ok (rng 0 vs.length) π2 := lr_ok (by omega) π2
          generalize ((allLv ts.length).filter (badR r f ts)).map rowD = B1 at *
          clear last hd0 r1 q9 e tv q7 hv
          generalize vs.map trD = V0 at *
          simp [htl, hlr, hrl]) e) ?_
        refine step_nx (P := PP) (ρ1 := [e0, some .root, e2, some (.dat (.str (ruleS r))), some (.dat (.tup (ts.map trD))), some (.dat (.int (roomS r ts))), some (.dat (.int f)), e7, some (.dat (.lst (((allLv ts.length).filter (badR r f ts)).map rowD))), some (.dat (.tup (vs.map trD))), some (.dat (.bl (leanB r f vs))), a, e12, c]) (π1 := π2) (by
          generalize ((allLv ts.length).filter (badR r f ts)).map rowD = B1 at *
          clear last hd0 r1 htl hTv e tv q7 hv
          generalize ts.map trD = T0 at *
          generalize vs.map trD = V0 at *
          simp [q9, q8]) ?_
        exact ⟨_, _, _, _, π2, last _ _ _, p2⟩
end G_k12

namespace G_k12
open PySem PySem.Spec PyProof.Rows L2 LamX DL
/-! k12's law -/
theorem law_ok (ns : List Int) (hl : ns.length ≤ 63) (_ : ∀ z ∈ ns, Builtin.Int.intBits z ≤ 1048576) : ∃ ρ' π', R_law (some (.dat (.frz (ns.map D.int))) :: List.replicate 13 none) .no = .ret (.dat (.bl true)) ρ' π' := by
  unfold R_law W_law
  refine frame ns hl (m := 11) (k := 4) (by decide) fun sc x2 tl π hlen hp => ?_
  match tl, hlen with
  | [x3, x4, x5, x6, x7, x8, x9, x10, x11, x12, x13], _ =>
    let PP : SO → Prop := fun o => ∃ x2' tl' π', o = .nx (some (.dat sc) :: some .root :: x2' :: tl') π' ∧ tl'.length = 11 ∧ Pot π'
    show PP _
    have hm : most = 1000000 := rfl
    obtain ⟨r, π1, e1, p1⟩ := law_rule_ok hp
    obtain ⟨n0, π2, e2, p2, n00, n01⟩ := draw_ok p1 (many := 6) (by decide)
    have n01 := n01 (by decide)
    obtain ⟨n, rfl⟩ : ∃ n : Nat, n0 = (n : Int) := ⟨n0.toNat, by omega⟩
    obtain ⟨ts, lefts, π3, e3, p3, hlen, hd⟩ := law_program_ok p2 (many := 1 + n) (by omega)
    rw [show ((1 + n : Nat) : Int) = 1 + (n : Int) by omega] at e3
    obtain ⟨rm1, rm24, hP⟩ := drawn_room r hd (by omega) (by omega)
    have h1 : 1 ≤ ts.length := hP.2.2.1
    have h6 : ts.length ≤ 6 := by omega
    have hTm : (ts.map trD).length ≤ most := by rw [List.length_map]; omega
    refine step_nx (P := PP) (ρ1 := [some (.dat sc), some .root, x2, some (.dat (.str (ruleS r))), some (.dat (.tup (ts.map trD))), x5, x6, x7, x8, x9, x10, x11, x12, x13]) (π1 := π3) (by simp [e1, e2, e3]) ?_
    have r1 := law_room_ok r hP.1 hP.2.2.2 π3
    refine step_nx (P := PP) (ρ1 := [some (.dat sc), some .root, x2, some (.dat (.str (ruleS r))), some (.dat (.tup (ts.map trD))), some (.dat (.int (roomS r ts))), x6, x7, x8, x9, x10, x11, x12, x13]) (π1 := π3) (by simp [r1]) ?_
    obtain ⟨m3, r2, m30, m31⟩ : ∃ m3, maxM [.int 0, .int (roomS r ts - 2)] π3 = .ok (.int m3) π3 ∧ 0 ≤ m3 ∧ m3 ≤ 24 := ⟨_, max2 _ _ _, by split <;> omega, by split <;> omega⟩
    obtain ⟨df, hdf, π4, e4, p4⟩ := pick_ok p3 (row := [.int (roomS r ts - 1), .int (roomS r ts - 1), .int m3, .int 0, .int (roomS r ts)]) (by simp) (by simp)
    obtain ⟨f, rfl, f0, f1⟩ : ∃ f : Int, df = .int f ∧ 0 ≤ f ∧ f ≤ 24 := by
      simp only [List.mem_cons, List.mem_nil_iff, or_false] at hdf
      rcases hdf with rfl | rfl | rfl | rfl | rfl
      · exact ⟨_, rfl, by omega, by omega⟩
      · exact ⟨_, rfl, by omega, by omega⟩
      · exact ⟨_, rfl, by omega, by omega⟩
      · exact ⟨_, rfl, by omega, by omega⟩
      · exact ⟨_, rfl, by omega, by omega⟩
    refine step_nx (P := PP) (ρ1 := [some (.dat sc), some .root, x2, some (.dat (.str (ruleS r))), some (.dat (.tup (ts.map trD))), some (.dat (.int (roomS r ts))), some (.dat (.int f)), x7, x8, x9, x10, x11, x12, x13]) (π1 := π4) (by simp [e4, r2]) ?_
    have r3 := program_room_ok r hP π4
    have r4 := is_refused_ok r f0 f1 hP π4
    have r5 := same_refl 11 (.tup [.int (roomS r ts), .bl (decide (f < roomS r ts))]) π4 (fine_tup2 (fine_int _ _) (fine_bl _ _))
    refine step_nx (P := PP) (ρ1 := [some (.dat sc), some .root, x2, some (.dat (.str (ruleS r))), some (.dat (.tup (ts.map trD))), some (.dat (.int (roomS r ts))), some (.dat (.int f)), x7, x8, x9, x10, x11, x12, x13]) (π1 := π4) (by simp [r3, r4, r5]) ?_
    have q0 := law_rows_ok h1 h6 π4
    have hlr : lrM (.int 0) (.int ts.length) π4 = .ok (rng 0 ts.length) π4 := lr_ok (by omega) π4
    have hrl : (rng 0 ts.length).length ≤ most := by rw [rng_len]; omega
    have htl : ((ts.map trD).length : Int) = ts.length := by rw [List.length_map]
    have hall := (lv_6 h1 h6).1
    have hal : (allLv ts.length).length ≤ 64 := by
      obtain ⟨_, r2, _, r4⟩ := rows_6 h1 h6
      rw [r2.length_eq]
      exact r4
    have hleft : ∀ z ∈ allLv ts.length, ∀ π, R__law_left [.tup (ts.map trD), rowD z] π = .ok (.dat (keptD (keptF ts z))) π := fun z hz π => law_left_ok hP.1 (by omega) (hall z hz).1 (by have := (hall z hz).2.2; omega) (.inl rfl) π
    have c1 := compGo_mapF (g := gN 7) (t := eT (eBin (isM true) (eVal (eCall R__law_left (aCons (eVar 4) (aCons (eVar 7) aNil)))) (eC .non))) (f := eVar 7) (ρ := [some (.dat sc), some .root, x2, some (.dat (.str (ruleS r))), some (.dat (.tup (ts.map trD))), some (.dat (.int (roomS r ts))), some (.dat (.int f)), none, x8, x9, x10, x11, x12, x13]) (π := π4) rowD (fun z => (keptF ts z).isSome) rowD (allLv ts.length) fun z hz => ⟨_, rfl, by
      have := hleft z hz π4
      cases hk : keptF ts z with
      | none =>
        rw [hk] at this
        generalize ts.map trD = T0 at *
        generalize rowD z = w0 at *
        simp [this, keptD, D.isNon]
      | some us =>
        rw [hk] at this
        have ek : keptD (some us) = .tup (us.map trD) := rfl
        rw [ek] at this
        generalize ts.map trD = T0 at *
        generalize us.map trD = U0 at *
        generalize rowD z = w0 at *
        simp [this, D.isNon], fun _ => rfl⟩
    have hl1 : ((allLv ts.length).map rowD).length ≤ most := by rw [List.length_map]; omega
    have hl2 : (((allLv ts.length).filter fun z => (keptF ts z).isSome).map rowD).length ≤ most := by
      have := List.length_filter_le (fun z => (keptF ts z).isSome) (allLv ts.length)
      rw [List.length_map]
      omega
    refine step_nx (P := PP) (ρ1 := [some (.dat sc), some .root, x2, some (.dat (.str (ruleS r))), some (.dat (.tup (ts.map trD))), some (.dat (.int (roomS r ts))), some (.dat (.int f)), x7, some (.dat (.lst (((allLv ts.length).filter fun z => (keptF ts z).isSome).map rowD))), x9, x10, x11, x12, x13]) (π1 := π4) (by
      clear r3 r4 hleft
      generalize (allLv ts.length).map rowD = A0 at *
      generalize ((allLv ts.length).filter fun z => (keptF ts z).isSome).map rowD = A1 at *
      generalize ts.map trD = T0 at *
      simp [htl, hlr, hrl, q0, c1, hl1, hl2]) ?_
    have c2 := compGo_mapF (g := gN 7) (t := eT (eBin gtM (eVal (eCall R__law_room (aCons (eVar 3) (aCons (eVal (eCall R__law_left (aCons (eVar 4) (aCons (eVar 7) aNil)))) aNil)))) (eVar 6))) (f := eVar 7) (ρ := [some (.dat sc), some .root, x2, some (.dat (.str (ruleS r))), some (.dat (.tup (ts.map trD))), some (.dat (.int (roomS r ts))), some (.dat (.int f)), none, some (.dat (.lst (((allLv ts.length).filter fun z => (keptF ts z).isSome).map rowD))), x9, x10, x11, x12, x13]) (π := π4) rowD (badR r f ts) rowD ((allLv ts.length).filter fun z => (keptF ts z).isSome) fun z hz => ⟨_, rfl, by
      obtain ⟨z1, z2⟩ := List.mem_filter.mp hz
      have := hleft z z1 π4
      rw [bad_room]
      cases hk : keptF ts z with
      | none =>
        rw [hk] at z2
        cases z2
      | some us =>
        rw [hk] at this
        have ek : keptD (some us) = .tup (us.map trD) := rfl
        rw [ek] at this
        obtain ⟨kw, kl⟩ := kept_wf hP.1 (hall z z1).1 (hall z z1).2.1 hk
        have hu := law_room_ok r kw (by have := (hall z z1).2.2; omega) π4
        generalize ((allLv ts.length).filter fun z => (keptF ts z).isSome).map rowD = A1 at *
        generalize ts.map trD = T0 at *
        generalize us.map trD = U0 at *
        generalize rowD z = w0 at *
        simp [this, hu, D.isNon], fun _ => rfl⟩
    have hff : ((allLv ts.length).filter fun z => (keptF ts z).isSome).filter (badR r f ts) = (allLv ts.length).filter (badR r f ts) := by
      rw [List.filter_filter]
      refine List.filter_congr fun z _ => ?_
      rw [bad_room]
      cases keptF ts z with
      | none => rfl
      | some us => exact Bool.and_true _
    rw [hff] at c2
    have hl3 : (((allLv ts.length).filter (badR r f ts)).map rowD).length ≤ most := by
      have := List.length_filter_le (badR r f ts) (allLv ts.length)
      rw [List.length_map]
      omega
    refine step_nx (P := PP) (ρ1 := [some (.dat sc), some .root, x2, some (.dat (.str (ruleS r))), some (.dat (.tup (ts.map trD))), some (.dat (.int (roomS r ts))), some (.dat (.int f)), x7, some (.dat (.lst (((allLv ts.length).filter (badR r f ts)).map rowD))), x9, x10, x11, x12, x13]) (π1 := π4) (by
      clear r3 r4 hleft c1 q0 hl1
      generalize ((allLv ts.length).filter (badR r f ts)).map rowD = A2 at *
      generalize ((allLv ts.length).filter fun z => (keptF ts z).isSome).map rowD = A1 at *
      generalize ts.map trD = T0 at *
      simp [c2, hl2, hl3]) ?_
    obtain ⟨y9, y10, y11, y13, π5, em, p5⟩ := mid_ok r f0 f1 hP h6 p4 (some (.dat sc)) x2 x7 x9 x10 x11 x12 x13
    refine step_nx (P := PP) (ρ1 := [some (.dat sc), some .root, x2, some (.dat (.str (ruleS r))), some (.dat (.tup (ts.map trD))), some (.dat (.int (roomS r ts))), some (.dat (.int f)), x7, some (.dat (.lst (((allLv ts.length).filter (badR r f ts)).map rowD))), y9, y10, y11, x12, y13]) (π1 := π5) (em) ?_
    have s1 := core_nil r f π5
    have s2 := room_let r π5
    have s3 := is_core_rule (.int f) (.tup (ts.map trD)) (.tup (ts.map trD)) π5
    have s4 := is_core_field r (.tup (ts.map trD)) (.tup (ts.map trD)) π5
    clear c1 c2 hleft q0 r3 r4 em
    generalize ((allLv ts.length).filter (badR r f ts)).map rowD = A2 at *
    generalize ts.map trD = T0 at *
    refine step_nx (P := PP) (ρ1 := [some (.dat sc), some .root, x2, some (.dat (.str (ruleS r))), some (.dat (.tup T0)), some (.dat (.int (roomS r ts))), some (.dat (.int f)), x7, some (.dat (.lst A2)), y9, y10, y11, x12, y13]) (π1 := π5) (by simp [s1, kRaises_exc (raise_of _ _ (.inl rfl))]) ?_
    refine step_nx (P := PP) (ρ1 := [some (.dat sc), some .root, x2, some (.dat (.str (ruleS r))), some (.dat (.tup T0)), some (.dat (.int (roomS r ts))), some (.dat (.int f)), x7, some (.dat (.lst A2)), y9, y10, y11, x12, y13]) (π1 := π5) (by simp [s2, kRaises_exc (raise_of _ _ (.inl rfl))]) ?_
    refine ⟨x2, [some (.dat (.str (ruleS r))), some (.dat (.tup T0)), some (.dat (.int (roomS r ts))), some (.dat (.int f)), x7, some (.dat (.lst A2)), y9, y10, y11, x12, y13], π5, by simp [s3, s4], rfl, p5⟩
end G_k12

namespace G_k12
open PySem PySem.Spec PyProof.Rows L2 LamX DL
def st__law_raises : Stmt := top 48
def d__law_pot : He.DefD := ⟨("_law_pot", none), "_law_pot", "_law_pot", defArgs st__law_pot, defBody st__law_pot, defScope st__law_pot, [], []⟩
def d__law_top : He.DefD := ⟨("_law_top", none), "_law_top", "_law_top", defArgs st__law_top, defBody st__law_top, defScope st__law_top, [], []⟩
def d__law_place : He.DefD := ⟨("_law_place", none), "_law_place", "_law_place", defArgs st__law_place, defBody st__law_place, defScope st__law_place, [], []⟩
def d__law_room : He.DefD := ⟨("_law_room", none), "_law_room", "_law_room", defArgs st__law_room, defBody st__law_room, defScope st__law_room, [], []⟩
def d__law_draw : He.DefD := ⟨("_law_draw", none), "_law_draw", "_law_draw", defArgs st__law_draw, defBody st__law_draw, defScope st__law_draw, [], []⟩
def d__law_pick : He.DefD := ⟨("_law_pick", none), "_law_pick", "_law_pick", defArgs st__law_pick, defBody st__law_pick, defScope st__law_pick, [], []⟩
def d__law_rule : He.DefD := ⟨("_law_rule", none), "_law_rule", "_law_rule", defArgs st__law_rule, defBody st__law_rule, defScope st__law_rule, [], []⟩
def d__law_program : He.DefD := ⟨("_law_program", none), "_law_program", "_law_program", defArgs st__law_program, defBody st__law_program, defScope st__law_program, [], []⟩
def d__law_same : He.DefD := ⟨("_law_same", none), "_law_same", "_law_same", defArgs st__law_same, defBody st__law_same, defScope st__law_same, [], []⟩
def d_kept_steps : He.DefD := ⟨("kept_steps", none), "kept_steps", "kept_steps", defArgs st_kept_steps, defBody st_kept_steps, defScope st_kept_steps, [], []⟩
def d_is_rule : He.DefD := ⟨("is_rule", none), "is_rule", "is_rule", defArgs st_is_rule, defBody st_is_rule, defScope st_is_rule, [], []⟩
def d_is_number : He.DefD := ⟨("is_number", none), "is_number", "is_number", defArgs st_is_number, defBody st_is_number, defScope st_is_number, [], []⟩
def d_is_step : He.DefD := ⟨("is_step", none), "is_step", "is_step", defArgs st_is_step, defBody st_is_step, defScope st_is_step, [], []⟩
def d_is_program : He.DefD := ⟨("is_program", none), "is_program", "is_program", defArgs st_is_program, defBody st_is_program, defScope st_is_program, [], []⟩
def d_with_plot : He.DefD := ⟨("with_plot", none), "with_plot", "with_plot", defArgs st_with_plot, defBody st_with_plot, defScope st_with_plot, [], []⟩
def d_without_plot : He.DefD := ⟨("without_plot", none), "without_plot", "without_plot", defArgs st_without_plot, defBody st_without_plot, defScope st_without_plot, [], []⟩
def d_end_of : He.DefD := ⟨("end_of", none), "end_of", "end_of", defArgs st_end_of, defBody st_end_of, defScope st_end_of, [], []⟩
def d_top_of : He.DefD := ⟨("top_of", none), "top_of", "top_of", defArgs st_top_of, defBody st_top_of, defScope st_top_of, [], []⟩
def d_chosen_gap : He.DefD := ⟨("chosen_gap", none), "chosen_gap", "chosen_gap", defArgs st_chosen_gap, defBody st_chosen_gap, defScope st_chosen_gap, [], []⟩
def d_stride_of : He.DefD := ⟨("stride_of", none), "stride_of", "stride_of", defArgs st_stride_of, defBody st_stride_of, defScope st_stride_of, [], []⟩
def d_is_free : He.DefD := ⟨("is_free", none), "is_free", "is_free", defArgs st_is_free, defBody st_is_free, defScope st_is_free, [], []⟩
def d_even_start : He.DefD := ⟨("even_start", none), "even_start", "even_start", defArgs st_even_start, defBody st_even_start, defScope st_even_start, [], []⟩
def d_gaps_below : He.DefD := ⟨("gaps_below", none), "gaps_below", "gaps_below", defArgs st_gaps_below, defBody st_gaps_below, defScope st_gaps_below, [], []⟩
def d_place_for : He.DefD := ⟨("place_for", none), "place_for", "place_for", defArgs st_place_for, defBody st_place_for, defScope st_place_for, [], []⟩
def d_tops_of : He.DefD := ⟨("tops_of", none), "tops_of", "tops_of", defArgs st_tops_of, defBody st_tops_of, defScope st_tops_of, [], []⟩
def d_is_core : He.DefD := ⟨("is_core", none), "is_core", "is_core", defArgs st_is_core, defBody st_is_core, defScope st_is_core, [], []⟩
def d__law_rows : He.DefD := ⟨("_law_rows", none), "_law_rows", "_law_rows", defArgs st__law_rows, defBody st__law_rows, defScope st__law_rows, [], []⟩
def d__law_odd : He.DefD := ⟨("_law_odd", none), "_law_odd", "_law_odd", defArgs st__law_odd, defBody st__law_odd, defScope st__law_odd, [], []⟩
def d__law_bent : He.DefD := ⟨("_law_bent", none), "_law_bent", "_law_bent", defArgs st__law_bent, defBody st__law_bent, defScope st__law_bent, [], []⟩
def d_need_rule : He.DefD := ⟨("need_rule", none), "need_rule", "need_rule", defArgs st_need_rule, defBody st_need_rule, defScope st_need_rule, [], []⟩
def d_need_program : He.DefD := ⟨("need_program", none), "need_program", "need_program", defArgs st_need_program, defBody st_need_program, defScope st_need_program, [], []⟩
def d_program_room : He.DefD := ⟨("program_room", none), "program_room", "program_room", defArgs st_program_room, defBody st_program_room, defScope st_program_room, [], []⟩
def d_need_number : He.DefD := ⟨("need_number", none), "need_number", "need_number", defArgs st_need_number, defBody st_need_number, defScope st_need_number, [], []⟩
def d_is_refused : He.DefD := ⟨("is_refused", none), "is_refused", "is_refused", defArgs st_is_refused, defBody st_is_refused, defScope st_is_refused, [], []⟩
def d__law_left : He.DefD := ⟨("_law_left", none), "_law_left", "_law_left", defArgs st__law_left, defBody st__law_left, defScope st__law_left, [], []⟩
def d_core : He.DefD := ⟨("core", none), "core", "core", defArgs st_core, defBody st_core, defScope st_core, [], []⟩
def d_law : He.DefD := ⟨("law", none), "law", "law", defArgs st_law, defBody st_law, defScope st_law, [], []⟩
def d__law_raises : He.DefD := ⟨("_law_raises", none), "_law_raises", "_law_raises", defArgs st__law_raises, defBody st__law_raises, defScope st__law_raises, [], []⟩
def st_init_BadNumber : Stmt := inClass (top 2) 0
def d_init_BadNumber : He.DefD := ⟨("BadNumber", some "__init__"), "__init__", "BadNumber.__init__", defArgs st_init_BadNumber, defBody st_init_BadNumber, defScope st_init_BadNumber, [], []⟩
theorem S_init_BadNumber : FnScope ["self", "value"] ["self", "value"] (defScope st_init_BadNumber) := ⟨rfl, rfl, rfl, by decide +kernel, rfl, by decide +kernel, by decide +kernel⟩
def st_init_BadRule : Stmt := inClass (top 3) 0
def d_init_BadRule : He.DefD := ⟨("BadRule", some "__init__"), "__init__", "BadRule.__init__", defArgs st_init_BadRule, defBody st_init_BadRule, defScope st_init_BadRule, [], []⟩
theorem S_init_BadRule : FnScope ["self", "value"] ["self", "value"] (defScope st_init_BadRule) := ⟨rfl, rfl, rfl, by decide +kernel, rfl, by decide +kernel, by decide +kernel⟩
def fnL : List He.DefD := [d__law_pot, d__law_top, d__law_place, d__law_room, d__law_draw, d__law_pick, d__law_rule, d__law_program, d__law_same, d_kept_steps, d_is_rule, d_is_number, d_is_step, d_is_program, d_with_plot, d_without_plot, d_end_of, d_top_of, d_chosen_gap, d_stride_of, d_is_free, d_even_start, d_gaps_below, d_place_for, d_tops_of, d_is_core, d__law_rows, d__law_odd, d__law_bent, d_need_rule, d_need_program, d_program_room, d_need_number, d_is_refused, d__law_left, d_core, d_law, d__law_raises, d_init_BadNumber, d_init_BadRule]
def faL : List He.Fa := blNames.map He.Fa.free ++ ([.glo "_law_pot", .glo "_law_top", .glo "_law_place", .glo "_law_room", .glo "_law_draw", .glo "_law_pick", .glo "_law_rule", .glo "_law_program", .glo "_law_same", .glo "kept_steps", .glo "is_rule", .glo "is_number", .glo "is_step", .glo "is_program", .glo "with_plot", .glo "without_plot", .glo "end_of", .glo "top_of", .glo "chosen_gap", .glo "stride_of", .glo "is_free", .glo "even_start", .glo "gaps_below", .glo "place_for", .glo "tops_of", .glo "is_core", .glo "_law_rows", .glo "_law_odd", .glo "_law_bent", .glo "need_rule"] ++ [.glo "need_program", .glo "program_room", .glo "need_number", .glo "is_refused", .glo "_law_left", .glo "core", .glo "law", .glo "_law_raises", .glo "PlotError", .glo "BadNumber", .glo "BadRule", .glo "NoPrograms", .glo "NotThere", .exc "NoPrograms", .exc "NotThere", .int "MOST_FIELD" 24, .glo "RULES", .int "MOST_STEPS" 8])
def exL (K : PySem.W.Frag) : Bool := (initB K "BadNumber" ["value"]) && ((initB K "BadRule" ["value"]) && ((tabFa tab_NoPrograms "NoPrograms" K) && ((tabFa tab_NotThere "NotThere" K) && ((He.tupB K "RULES" [.str "first", .str "best", .str "worst", .str "last", .str "even"]) && (true)))))
abbrev hkL : PySem.W.Hook := He.hookX 5 faL fnL [] [("law", none)] exL
abbrev RL : PySem.W.OpenRow := PySem.W.OpenLaw.row PySem.Challenge.rw_plotwardens_k12_cores_of_programs
def obL (s : PySem.W.SharedT) : He.AlX := He.obsX 5 faL fnL [] [("law", none)] exL (HandSHeadRun.getT s)
theorem obL_eq (s : PySem.W.SharedT) : obL s = hkL.obs s.abs := He.obsX_eq (HandSHeadRun.getT_eq s)
def looseL0 : List Str := ["PlotError", "BadNumber", "BadRule", "NoPrograms", "NotThere", "is_number", "need_number", "MOST_FIELD", "end_of", "top_of", "gaps_below", "is_free", "with_plot", "without_plot", "RULES", "is_rule", "need_rule", "stride_of", "even_start", "chosen_gap", "place_for", "MOST_STEPS", "is_step", "is_program", "kept_steps", "tops_of", "need_program", "is_refused", "program_room", "core"]
def looseL1 : List Str := ["is_core", "_law_pot", "_law_draw", "_law_pick", "_law_same", "_law_odd", "_law_bent", "_law_rows", "_law_place", "_law_top", "_law_rule", "_law_raises", "_law_program", "_law_room", "_law_left"]
def looseL : List Str := looseL0 ++ looseL1
theorem runL (w : World) : HandSHeadRun.RunEq RL (PySem.W.view RL.prog [52]) hkL obL 4000 looseL w := by
  intro os
  kernel_rfl
theorem atL (w : World) (mg : Str → Option Value) (fa : Addr) (h : Heap) (Y : hkL.says w h) (G : h.Ns mainGlobals mg) (hmg : mg "law" = some (.ref fa)) : ∃ K : PySem.W.Frag, K.In h ∧ LawAtS PySem.Challenge.rw_plotwardens_k12_cores_of_programs w K (L2.CX (PySem.Challenge.rw_plotwardens_k12_cores_of_programs).prog w) 22 63 "script" mg fa h := by
  obtain ⟨K, X, c⟩ := Y
  refine ⟨K, X, ?_⟩
  have d := c.t.d
  have B : Bl mg := Bl.of fun x hx => He.free_ok X G (d.facts (f := .free x) (List.mem_append_left _ (List.mem_map_of_mem hx)))
  have ex := c.more
  obtain ⟨x0, ex⟩ := Bool.and_eq_true_iff.mp ex
  obtain ⟨x1, ex⟩ := Bool.and_eq_true_iff.mp ex
  obtain ⟨x2, ex⟩ := Bool.and_eq_true_iff.mp ex
  obtain ⟨x3, ex⟩ := Bool.and_eq_true_iff.mp ex
  obtain ⟨x4, ex⟩ := Bool.and_eq_true_iff.mp ex
  obtain ⟨fd__law_pot, D__law_pot⟩ := d.def_ 0 (d := d__law_pot) rfl
  have u__law_pot : Fun K "_law_pot" "_law_pot" st__law_pot (He.fAd K ("_law_pot", none)) fd__law_pot := funOf D__law_pot
  have m__law_pot := He.glo_ok X G (d.fact 20 (f := .glo "_law_pot") rfl)
  obtain ⟨fd__law_top, D__law_top⟩ := d.def_ 1 (d := d__law_top) rfl
  have u__law_top : Fun K "_law_top" "_law_top" st__law_top (He.fAd K ("_law_top", none)) fd__law_top := funOf D__law_top
  have m__law_top := He.glo_ok X G (d.fact 21 (f := .glo "_law_top") rfl)
  obtain ⟨fd__law_place, D__law_place⟩ := d.def_ 2 (d := d__law_place) rfl
  have u__law_place : Fun K "_law_place" "_law_place" st__law_place (He.fAd K ("_law_place", none)) fd__law_place := funOf D__law_place
  have m__law_place := He.glo_ok X G (d.fact 22 (f := .glo "_law_place") rfl)
  obtain ⟨fd__law_room, D__law_room⟩ := d.def_ 3 (d := d__law_room) rfl
  have u__law_room : Fun K "_law_room" "_law_room" st__law_room (He.fAd K ("_law_room", none)) fd__law_room := funOf D__law_room
  have m__law_room := He.glo_ok X G (d.fact 23 (f := .glo "_law_room") rfl)
  obtain ⟨fd__law_draw, D__law_draw⟩ := d.def_ 4 (d := d__law_draw) rfl
  have u__law_draw : Fun K "_law_draw" "_law_draw" st__law_draw (He.fAd K ("_law_draw", none)) fd__law_draw := funOf D__law_draw
  have m__law_draw := He.glo_ok X G (d.fact 24 (f := .glo "_law_draw") rfl)
  obtain ⟨fd__law_pick, D__law_pick⟩ := d.def_ 5 (d := d__law_pick) rfl
  have u__law_pick : Fun K "_law_pick" "_law_pick" st__law_pick (He.fAd K ("_law_pick", none)) fd__law_pick := funOf D__law_pick
  have m__law_pick := He.glo_ok X G (d.fact 25 (f := .glo "_law_pick") rfl)
  obtain ⟨fd__law_rule, D__law_rule⟩ := d.def_ 6 (d := d__law_rule) rfl
  have u__law_rule : Fun K "_law_rule" "_law_rule" st__law_rule (He.fAd K ("_law_rule", none)) fd__law_rule := funOf D__law_rule
  have m__law_rule := He.glo_ok X G (d.fact 26 (f := .glo "_law_rule") rfl)
  obtain ⟨fd__law_program, D__law_program⟩ := d.def_ 7 (d := d__law_program) rfl
  have u__law_program : Fun K "_law_program" "_law_program" st__law_program (He.fAd K ("_law_program", none)) fd__law_program := funOf D__law_program
  have m__law_program := He.glo_ok X G (d.fact 27 (f := .glo "_law_program") rfl)
  obtain ⟨fd__law_same, D__law_same⟩ := d.def_ 8 (d := d__law_same) rfl
  have u__law_same : Fun K "_law_same" "_law_same" st__law_same (He.fAd K ("_law_same", none)) fd__law_same := funOf D__law_same
  have m__law_same := He.glo_ok X G (d.fact 28 (f := .glo "_law_same") rfl)
  obtain ⟨fd_kept_steps, D_kept_steps⟩ := d.def_ 9 (d := d_kept_steps) rfl
  have u_kept_steps : Fun K "kept_steps" "kept_steps" st_kept_steps (He.fAd K ("kept_steps", none)) fd_kept_steps := funOf D_kept_steps
  have m_kept_steps := He.glo_ok X G (d.fact 29 (f := .glo "kept_steps") rfl)
  obtain ⟨fd_is_rule, D_is_rule⟩ := d.def_ 10 (d := d_is_rule) rfl
  have u_is_rule : Fun K "is_rule" "is_rule" st_is_rule (He.fAd K ("is_rule", none)) fd_is_rule := funOf D_is_rule
  have m_is_rule := He.glo_ok X G (d.fact 30 (f := .glo "is_rule") rfl)
  obtain ⟨fd_is_number, D_is_number⟩ := d.def_ 11 (d := d_is_number) rfl
  have u_is_number : Fun K "is_number" "is_number" st_is_number (He.fAd K ("is_number", none)) fd_is_number := funOf D_is_number
  have m_is_number := He.glo_ok X G (d.fact 31 (f := .glo "is_number") rfl)
  obtain ⟨fd_is_step, D_is_step⟩ := d.def_ 12 (d := d_is_step) rfl
  have u_is_step : Fun K "is_step" "is_step" st_is_step (He.fAd K ("is_step", none)) fd_is_step := funOf D_is_step
  have m_is_step := He.glo_ok X G (d.fact 32 (f := .glo "is_step") rfl)
  obtain ⟨fd_is_program, D_is_program⟩ := d.def_ 13 (d := d_is_program) rfl
  have u_is_program : Fun K "is_program" "is_program" st_is_program (He.fAd K ("is_program", none)) fd_is_program := funOf D_is_program
  have m_is_program := He.glo_ok X G (d.fact 33 (f := .glo "is_program") rfl)
  obtain ⟨fd_with_plot, D_with_plot⟩ := d.def_ 14 (d := d_with_plot) rfl
  have u_with_plot : Fun K "with_plot" "with_plot" st_with_plot (He.fAd K ("with_plot", none)) fd_with_plot := funOf D_with_plot
  have m_with_plot := He.glo_ok X G (d.fact 34 (f := .glo "with_plot") rfl)
  obtain ⟨fd_without_plot, D_without_plot⟩ := d.def_ 15 (d := d_without_plot) rfl
  have u_without_plot : Fun K "without_plot" "without_plot" st_without_plot (He.fAd K ("without_plot", none)) fd_without_plot := funOf D_without_plot
  have m_without_plot := He.glo_ok X G (d.fact 35 (f := .glo "without_plot") rfl)
  obtain ⟨fd_end_of, D_end_of⟩ := d.def_ 16 (d := d_end_of) rfl
  have u_end_of : Fun K "end_of" "end_of" st_end_of (He.fAd K ("end_of", none)) fd_end_of := funOf D_end_of
  have m_end_of := He.glo_ok X G (d.fact 36 (f := .glo "end_of") rfl)
  obtain ⟨fd_top_of, D_top_of⟩ := d.def_ 17 (d := d_top_of) rfl
  have u_top_of : Fun K "top_of" "top_of" st_top_of (He.fAd K ("top_of", none)) fd_top_of := funOf D_top_of
  have m_top_of := He.glo_ok X G (d.fact 37 (f := .glo "top_of") rfl)
  obtain ⟨fd_chosen_gap, D_chosen_gap⟩ := d.def_ 18 (d := d_chosen_gap) rfl
  have u_chosen_gap : Fun K "chosen_gap" "chosen_gap" st_chosen_gap (He.fAd K ("chosen_gap", none)) fd_chosen_gap := funOf D_chosen_gap
  have m_chosen_gap := He.glo_ok X G (d.fact 38 (f := .glo "chosen_gap") rfl)
  obtain ⟨fd_stride_of, D_stride_of⟩ := d.def_ 19 (d := d_stride_of) rfl
  have u_stride_of : Fun K "stride_of" "stride_of" st_stride_of (He.fAd K ("stride_of", none)) fd_stride_of := funOf D_stride_of
  have m_stride_of := He.glo_ok X G (d.fact 39 (f := .glo "stride_of") rfl)
  obtain ⟨fd_is_free, D_is_free⟩ := d.def_ 20 (d := d_is_free) rfl
  have u_is_free : Fun K "is_free" "is_free" st_is_free (He.fAd K ("is_free", none)) fd_is_free := funOf D_is_free
  have m_is_free := He.glo_ok X G (d.fact 40 (f := .glo "is_free") rfl)
  obtain ⟨fd_even_start, D_even_start⟩ := d.def_ 21 (d := d_even_start) rfl
  have u_even_start : Fun K "even_start" "even_start" st_even_start (He.fAd K ("even_start", none)) fd_even_start := funOf D_even_start
  have m_even_start := He.glo_ok X G (d.fact 41 (f := .glo "even_start") rfl)
  obtain ⟨fd_gaps_below, D_gaps_below⟩ := d.def_ 22 (d := d_gaps_below) rfl
  have u_gaps_below : Fun K "gaps_below" "gaps_below" st_gaps_below (He.fAd K ("gaps_below", none)) fd_gaps_below := funOf D_gaps_below
  have m_gaps_below := He.glo_ok X G (d.fact 42 (f := .glo "gaps_below") rfl)
  obtain ⟨fd_place_for, D_place_for⟩ := d.def_ 23 (d := d_place_for) rfl
  have u_place_for : Fun K "place_for" "place_for" st_place_for (He.fAd K ("place_for", none)) fd_place_for := funOf D_place_for
  have m_place_for := He.glo_ok X G (d.fact 43 (f := .glo "place_for") rfl)
  obtain ⟨fd_tops_of, D_tops_of⟩ := d.def_ 24 (d := d_tops_of) rfl
  have u_tops_of : Fun K "tops_of" "tops_of" st_tops_of (He.fAd K ("tops_of", none)) fd_tops_of := funOf D_tops_of
  have m_tops_of := He.glo_ok X G (d.fact 44 (f := .glo "tops_of") rfl)
  obtain ⟨fd_is_core, D_is_core⟩ := d.def_ 25 (d := d_is_core) rfl
  have u_is_core : Fun K "is_core" "is_core" st_is_core (He.fAd K ("is_core", none)) fd_is_core := funOf D_is_core
  have m_is_core := He.glo_ok X G (d.fact 45 (f := .glo "is_core") rfl)
  obtain ⟨fd__law_rows, D__law_rows⟩ := d.def_ 26 (d := d__law_rows) rfl
  have u__law_rows : Fun K "_law_rows" "_law_rows" st__law_rows (He.fAd K ("_law_rows", none)) fd__law_rows := funOf D__law_rows
  have m__law_rows := He.glo_ok X G (d.fact 46 (f := .glo "_law_rows") rfl)
  obtain ⟨fd__law_odd, D__law_odd⟩ := d.def_ 27 (d := d__law_odd) rfl
  have u__law_odd : Fun K "_law_odd" "_law_odd" st__law_odd (He.fAd K ("_law_odd", none)) fd__law_odd := funOf D__law_odd
  have m__law_odd := He.glo_ok X G (d.fact 47 (f := .glo "_law_odd") rfl)
  obtain ⟨fd__law_bent, D__law_bent⟩ := d.def_ 28 (d := d__law_bent) rfl
  have u__law_bent : Fun K "_law_bent" "_law_bent" st__law_bent (He.fAd K ("_law_bent", none)) fd__law_bent := funOf D__law_bent
  have m__law_bent := He.glo_ok X G (d.fact 48 (f := .glo "_law_bent") rfl)
  obtain ⟨fd_need_rule, D_need_rule⟩ := d.def_ 29 (d := d_need_rule) rfl
  have u_need_rule : Fun K "need_rule" "need_rule" st_need_rule (He.fAd K ("need_rule", none)) fd_need_rule := funOf D_need_rule
  have m_need_rule := He.glo_ok X G (d.fact 49 (f := .glo "need_rule") rfl)
  obtain ⟨fd_need_program, D_need_program⟩ := d.def_ 30 (d := d_need_program) rfl
  have u_need_program : Fun K "need_program" "need_program" st_need_program (He.fAd K ("need_program", none)) fd_need_program := funOf D_need_program
  have m_need_program := He.glo_ok X G (d.fact 50 (f := .glo "need_program") rfl)
  obtain ⟨fd_program_room, D_program_room⟩ := d.def_ 31 (d := d_program_room) rfl
  have u_program_room : Fun K "program_room" "program_room" st_program_room (He.fAd K ("program_room", none)) fd_program_room := funOf D_program_room
  have m_program_room := He.glo_ok X G (d.fact 51 (f := .glo "program_room") rfl)
  obtain ⟨fd_need_number, D_need_number⟩ := d.def_ 32 (d := d_need_number) rfl
  have u_need_number : Fun K "need_number" "need_number" st_need_number (He.fAd K ("need_number", none)) fd_need_number := funOf D_need_number
  have m_need_number := He.glo_ok X G (d.fact 52 (f := .glo "need_number") rfl)
  obtain ⟨fd_is_refused, D_is_refused⟩ := d.def_ 33 (d := d_is_refused) rfl
  have u_is_refused : Fun K "is_refused" "is_refused" st_is_refused (He.fAd K ("is_refused", none)) fd_is_refused := funOf D_is_refused
  have m_is_refused := He.glo_ok X G (d.fact 53 (f := .glo "is_refused") rfl)
  obtain ⟨fd__law_left, D__law_left⟩ := d.def_ 34 (d := d__law_left) rfl
  have u__law_left : Fun K "_law_left" "_law_left" st__law_left (He.fAd K ("_law_left", none)) fd__law_left := funOf D__law_left
  have m__law_left := He.glo_ok X G (d.fact 54 (f := .glo "_law_left") rfl)
  obtain ⟨fd_core, D_core⟩ := d.def_ 35 (d := d_core) rfl
  have u_core : Fun K "core" "core" st_core (He.fAd K ("core", none)) fd_core := funOf D_core
  have m_core := He.glo_ok X G (d.fact 55 (f := .glo "core") rfl)
  obtain ⟨fd_law, D_law⟩ := d.def_ 36 (d := d_law) rfl
  have u_law : Fun K "law" "law" st_law (He.fAd K ("law", none)) fd_law := funOf D_law
  have m_law := He.glo_ok X G (d.fact 56 (f := .glo "law") rfl)
  obtain ⟨fd__law_raises, D__law_raises⟩ := d.def_ 37 (d := d__law_raises) rfl
  have u__law_raises : Fun K "_law_raises" "_law_raises" st__law_raises (He.fAd K ("_law_raises", none)) fd__law_raises := funOf D__law_raises
  have m__law_raises := He.glo_ok X G (d.fact 57 (f := .glo "_law_raises") rfl)
  obtain ⟨fi_BadNumber, I_BadNumber⟩ := d.def_ 38 (d := d_init_BadNumber) rfl
  have v_BadNumber : Fun K "__init__" "BadNumber.__init__" st_init_BadNumber (He.ma K (He.ga K "BadNumber") "__init__") fi_BadNumber := funOf I_BadNumber
  obtain ⟨fi_BadRule, I_BadRule⟩ := d.def_ 39 (d := d_init_BadRule) rfl
  have v_BadRule : Fun K "__init__" "BadRule.__init__" st_init_BadRule (He.ma K (He.ga K "BadRule") "__init__") fi_BadRule := funOf I_BadRule
  have m_PlotError := He.glo_ok X G (d.fact 58 (f := .glo "PlotError") rfl)
  have m_BadNumber := He.glo_ok X G (d.fact 59 (f := .glo "BadNumber") rfl)
  have m_BadRule := He.glo_ok X G (d.fact 60 (f := .glo "BadRule") rfl)
  have m_NoPrograms := He.glo_ok X G (d.fact 61 (f := .glo "NoPrograms") rfl)
  have m_NotThere := He.glo_ok X G (d.fact 62 (f := .glo "NotThere") rfl)
  have n_NoPrograms := exN_of m_NoPrograms (d.fact 63 (f := .exc "NoPrograms") rfl)
  have n_NotThere := exN_of m_NotThere (d.fact 64 (f := .exc "NotThere") rfl)
  have h_MOST_FIELD : Gc K mg "MOST_FIELD" c_MOST_FIELD := gc_int (He.int_ok X G (d.fact 65 (f := .int "MOST_FIELD" 24) rfl))
  have h_RULES : Gc K mg "RULES" c_RULES := gc_tup (He.glo_ok X G (d.fact 66 (f := .glo "RULES") rfl)) x4 fun _ => (.cons (.str _) (.cons (.str _) (.cons (.str _) (.cons (.str _) (.cons (.str _) .nil)))))
  have h_MOST_STEPS : Gc K mg "MOST_STEPS" c_MOST_STEPS := gc_int (He.int_ok X G (d.fact 67 (f := .int "MOST_STEPS" 8) rfl))
  have tb_NoPrograms := tabFa_ok X G x2
  have tb_NotThere := tabFa_ok X G x3
  have e := hmg.symm.trans m_law
  cases e
  have i_BadNumber : ∀ base : Heap, ExI (PySem.Challenge.rw_plotwardens_k12_cores_of_programs).prog w K mg base "BadNumber" 1 ["value"] := fun base => exI_of m_BadNumber x0 (init1 v_BadNumber S_init_BadNumber (.inl rfl) (.inl rfl) (by decide) (by decide) (by decide) (by decide) rfl) (v_BadNumber.binds (ps := ["self", "value"]) fun _ _ _ _ _ _ us hl => match us, hl with | [_, _], _ => rfl)
  have i_BadRule : ∀ base : Heap, ExI (PySem.Challenge.rw_plotwardens_k12_cores_of_programs).prog w K mg base "BadRule" 1 ["value"] := fun base => exI_of m_BadRule x1 (init1 v_BadRule S_init_BadRule (.inl rfl) (.inl rfl) (by decide) (by decide) (by decide) (by decide) rfl) (v_BadRule.binds (ps := ["self", "value"]) fun _ _ _ _ _ _ us hl => match us, hl with | [_, _], _ => rfl)
  have Ex : ∀ base : Heap, EX (PySem.Challenge.rw_plotwardens_k12_cores_of_programs).prog w K mg base := fun base => ⟨True.intro, i_BadNumber base, m_BadNumber, i_BadRule base, m_BadRule, n_NoPrograms, m_NoPrograms, n_NotThere, m_NotThere, h_MOST_FIELD, h_RULES, h_MOST_STEPS⟩
  have b__law_pot := u__law_pot.binds (ps := ["script"]) fun _ _ _ _ _ _ us hl => match us, hl with | [_], _ => rfl
  have b__law_top := u__law_top.binds (ps := ["laid"]) fun _ _ _ _ _ _ us hl => match us, hl with | [_], _ => rfl
  have b__law_place := u__law_place.binds (ps := ["rule", "laid", "length"]) fun _ _ _ _ _ _ us hl => match us, hl with | [_, _, _], _ => rfl
  have b__law_room := u__law_room.binds (ps := ["rule", "program"]) fun _ _ _ _ _ _ us hl => match us, hl with | [_, _], _ => rfl
  have b__law_draw := u__law_draw.binds (ps := ["pot", "many"]) fun _ _ _ _ _ _ us hl => match us, hl with | [_, _], _ => rfl
  have b__law_pick := u__law_pick.binds (ps := ["pot", "row"]) fun _ _ _ _ _ _ us hl => match us, hl with | [_, _], _ => rfl
  have b__law_rule := u__law_rule.binds (ps := ["pot"]) fun _ _ _ _ _ _ us hl => match us, hl with | [_], _ => rfl
  have b__law_program := u__law_program.binds (ps := ["pot", "many"]) fun _ _ _ _ _ _ us hl => match us, hl with | [_, _], _ => rfl
  have b__law_same := u__law_same.binds (ps := ["found", "due"]) fun _ _ _ _ _ _ us hl => match us, hl with | [_, _], _ => rfl
  have b_kept_steps := u_kept_steps.binds (ps := ["program", "numbers"]) fun _ _ _ _ _ _ us hl => match us, hl with | [_, _], _ => rfl
  have b_is_rule := u_is_rule.binds (ps := ["value"]) fun _ _ _ _ _ _ us hl => match us, hl with | [_], _ => rfl
  have b_is_number := u_is_number.binds (ps := ["value", "least", "most"]) fun _ _ _ _ _ _ us hl => match us, hl with | [_, _, _], _ => rfl
  have b_is_step := u_is_step.binds (ps := ["value", "asked"]) fun _ _ _ _ _ _ us hl => match us, hl with | [_, _], _ => rfl
  have b_is_program := u_is_program.binds (ps := ["value"]) fun _ _ _ _ _ _ us hl => match us, hl with | [_], _ => rfl
  have b_with_plot := u_with_plot.binds (ps := ["layout", "plot"]) fun _ _ _ _ _ _ us hl => match us, hl with | [_, _], _ => rfl
  have b_without_plot := u_without_plot.binds (ps := ["layout", "start"]) fun _ _ _ _ _ _ us hl => match us, hl with | [_, _], _ => rfl
  have b_end_of := u_end_of.binds (ps := ["plot"]) fun _ _ _ _ _ _ us hl => match us, hl with | [_], _ => rfl
  have b_top_of := u_top_of.binds (ps := ["layout"]) fun _ _ _ _ _ _ us hl => match us, hl with | [_], _ => rfl
  have b_chosen_gap := u_chosen_gap.binds (ps := ["rule", "fits"]) fun _ _ _ _ _ _ us hl => match us, hl with | [_, _], _ => rfl
  have b_stride_of := u_stride_of.binds (ps := ["length"]) fun _ _ _ _ _ _ us hl => match us, hl with | [_], _ => rfl
  have b_is_free := u_is_free.binds (ps := ["layout", "start", "length"]) fun _ _ _ _ _ _ us hl => match us, hl with | [_, _, _], _ => rfl
  have b_even_start := u_even_start.binds (ps := ["layout", "length"]) fun _ _ _ _ _ _ us hl => match us, hl with | [_, _], _ => rfl
  have b_gaps_below := u_gaps_below.binds (ps := ["layout"]) fun _ _ _ _ _ _ us hl => match us, hl with | [_], _ => rfl
  have b_place_for := u_place_for.binds (ps := ["rule", "layout", "length"]) fun _ _ _ _ _ _ us hl => match us, hl with | [_, _, _], _ => rfl
  have b_tops_of := u_tops_of.binds (ps := ["rule", "program"]) fun _ _ _ _ _ _ us hl => match us, hl with | [_, _], _ => rfl
  have b_is_core := u_is_core.binds (ps := ["rule", "field", "program", "value"]) fun _ _ _ _ _ _ us hl => match us, hl with | [_, _, _, _], _ => rfl
  have b__law_rows := u__law_rows.binds (ps := ["items", "most"]) fun _ _ _ _ _ _ us hl => match us, hl with | [_, _], _ => rfl
  have b__law_odd := u__law_odd.binds (ps := ["pot", "thing"]) fun _ _ _ _ _ _ us hl => match us, hl with | [_, _], _ => rfl
  have b__law_bent := u__law_bent.binds (ps := ["pot", "thing", "left"]) fun _ _ _ _ _ _ us hl => match us, hl with | [_, _, _], _ => rfl
  have b_need_rule := u_need_rule.binds (ps := ["rule"]) fun _ _ _ _ _ _ us hl => match us, hl with | [_], _ => rfl
  have b_need_program := u_need_program.binds (ps := ["rule", "program"]) fun _ _ _ _ _ _ us hl => match us, hl with | [_, _], _ => rfl
  have b_program_room := u_program_room.binds (ps := ["rule", "program"]) fun _ _ _ _ _ _ us hl => match us, hl with | [_, _], _ => rfl
  have b_need_number := u_need_number.binds (ps := ["value", "least", "most"]) fun _ _ _ _ _ _ us hl => match us, hl with | [_, _, _], _ => rfl
  have b_is_refused := u_is_refused.binds (ps := ["rule", "field", "program"]) fun _ _ _ _ _ _ us hl => match us, hl with | [_, _, _], _ => rfl
  have b__law_left := u__law_left.binds (ps := ["program", "row"]) fun _ _ _ _ _ _ us hl => match us, hl with | [_, _], _ => rfl
  have b_core := u_core.binds (ps := ["rule", "field", "program"]) fun _ _ _ _ _ _ us hl => match us, hl with | [_, _, _], _ => rfl
  have b__law_raises := u__law_raises.binds (ps := ["work", "name"]) fun _ _ _ _ _ _ us hl => match us, hl with | [_, _], _ => rfl
  refine lawAt (st := st_law) (fd := fd_law) (m := 13) (s := R_law) D_law (c := (He.cT K ("law", none)).1) (Pt := (He.cT K ("law", none)).2) rfl (c.empty _ List.mem_cons_self) (c.out _ List.mem_cons_self) (PySem.W.codeHd_of_K X (c.hd _ List.mem_cons_self)) S_law rfl (fun _ _ _ _ _ _ _ => rfl) (fun base Xb Gb TB A outer sh H E wd hw hnr hr => ?_) law_ok
  have g__law_pot : FnG (PySem.Challenge.rw_plotwardens_k12_cores_of_programs).prog w K mg base "_law_pot" 4 none 1 R__law_pot := G__law_pot (k := 0) u__law_pot m__law_pot b__law_pot B (Ex base)
  have g__law_top : FnG (PySem.Challenge.rw_plotwardens_k12_cores_of_programs).prog w K mg base "_law_top" 4 none 1 R__law_top := G__law_top (k := 0) u__law_top m__law_top b__law_top B (Ex base)
  have g__law_place : FnG (PySem.Challenge.rw_plotwardens_k12_cores_of_programs).prog w K mg base "_law_place" 4 none 3 R__law_place := G__law_place (k := 0) u__law_place m__law_place b__law_place B (Ex base)
  have g__law_room : FnG (PySem.Challenge.rw_plotwardens_k12_cores_of_programs).prog w K mg base "_law_room" 5 none 2 R__law_room := G__law_room (k := 1) u__law_room m__law_room b__law_room B (Ex base) (g__law_place.mono (by decide)) (g__law_top.mono (by decide))
  have g__law_draw : FnG (PySem.Challenge.rw_plotwardens_k12_cores_of_programs).prog w K mg base "_law_draw" 4 (some 0) 2 R__law_draw := G__law_draw (k := 0) u__law_draw m__law_draw b__law_draw B (Ex base)
  have g__law_pick : FnG (PySem.Challenge.rw_plotwardens_k12_cores_of_programs).prog w K mg base "_law_pick" 5 (some 0) 2 R__law_pick := G__law_pick (k := 1) u__law_pick m__law_pick b__law_pick B (Ex base) (g__law_draw.mono (by decide))
  have g__law_rule : FnG (PySem.Challenge.rw_plotwardens_k12_cores_of_programs).prog w K mg base "_law_rule" 6 (some 0) 1 R__law_rule := G__law_rule (k := 2) u__law_rule m__law_rule b__law_rule B (Ex base) (g__law_pick.mono (by decide))
  have g__law_program : FnG (PySem.Challenge.rw_plotwardens_k12_cores_of_programs).prog w K mg base "_law_program" 5 (some 0) 2 R__law_program := G__law_program (k := 1) u__law_program m__law_program b__law_program B (Ex base) (g__law_draw.mono (by decide))
  have r__law_same : ∀ n : Nat, FnG (PySem.Challenge.rw_plotwardens_k12_cores_of_programs).prog w K mg base "_law_same" (n + 1 + 3) none 2 (R__law_same n) := fun n => by
    induction n with
    | zero => exact (fnG_bad (k := 2) u__law_same m__law_same b__law_same S__law_same).mono (by omega)
    | succ n ih => exact (G__law_same (k := n + 1) u__law_same m__law_same b__law_same B (Ex base) ih).mono (by omega)
  have g__law_same : FnG (PySem.Challenge.rw_plotwardens_k12_cores_of_programs).prog w K mg base "_law_same" 16 none 2 (R__law_same 12) := r__law_same 12
  have g_kept_steps : FnG (PySem.Challenge.rw_plotwardens_k12_cores_of_programs).prog w K mg base "kept_steps" 4 none 2 R_kept_steps := G_kept_steps (k := 0) u_kept_steps m_kept_steps b_kept_steps B (Ex base)
  have g_is_rule : FnG (PySem.Challenge.rw_plotwardens_k12_cores_of_programs).prog w K mg base "is_rule" 4 none 1 R_is_rule := G_is_rule (k := 0) u_is_rule m_is_rule b_is_rule B (Ex base)
  have g_is_number : FnG (PySem.Challenge.rw_plotwardens_k12_cores_of_programs).prog w K mg base "is_number" 4 none 3 R_is_number := G_is_number (k := 0) u_is_number m_is_number b_is_number B (Ex base)
  have g_is_step : FnG (PySem.Challenge.rw_plotwardens_k12_cores_of_programs).prog w K mg base "is_step" 5 none 2 R_is_step := G_is_step (k := 1) u_is_step m_is_step b_is_step B (Ex base) (g_is_number.mono (by decide))
  have g_is_program : FnG (PySem.Challenge.rw_plotwardens_k12_cores_of_programs).prog w K mg base "is_program" 6 none 1 R_is_program := G_is_program (k := 2) u_is_program m_is_program b_is_program B (Ex base) (g_is_step.mono (by decide))
  have g_with_plot : FnG (PySem.Challenge.rw_plotwardens_k12_cores_of_programs).prog w K mg base "with_plot" 4 none 2 R_with_plot := G_with_plot (k := 0) u_with_plot m_with_plot b_with_plot B (Ex base)
  have g_without_plot : FnG (PySem.Challenge.rw_plotwardens_k12_cores_of_programs).prog w K mg base "without_plot" 4 none 2 R_without_plot := G_without_plot (k := 0) u_without_plot m_without_plot b_without_plot B (Ex base)
  have g_end_of : FnG (PySem.Challenge.rw_plotwardens_k12_cores_of_programs).prog w K mg base "end_of" 4 none 1 R_end_of := G_end_of (k := 0) u_end_of m_end_of b_end_of B (Ex base)
  have g_top_of : FnG (PySem.Challenge.rw_plotwardens_k12_cores_of_programs).prog w K mg base "top_of" 5 none 1 R_top_of := G_top_of (k := 1) u_top_of m_top_of b_top_of B (Ex base) (g_end_of.mono (by decide))
  have g_chosen_gap : FnG (PySem.Challenge.rw_plotwardens_k12_cores_of_programs).prog w K mg base "chosen_gap" 4 none 2 R_chosen_gap := G_chosen_gap (k := 0) u_chosen_gap m_chosen_gap b_chosen_gap B (Ex base)
  have g_stride_of : FnG (PySem.Challenge.rw_plotwardens_k12_cores_of_programs).prog w K mg base "stride_of" 4 none 1 R_stride_of := G_stride_of (k := 0) u_stride_of m_stride_of b_stride_of B (Ex base) 1000
  have g_is_free : FnG (PySem.Challenge.rw_plotwardens_k12_cores_of_programs).prog w K mg base "is_free" 5 none 3 R_is_free := G_is_free (k := 1) u_is_free m_is_free b_is_free B (Ex base) (g_end_of.mono (by decide))
  have g_even_start : FnG (PySem.Challenge.rw_plotwardens_k12_cores_of_programs).prog w K mg base "even_start" 6 none 2 R_even_start := G_even_start (k := 2) u_even_start m_even_start b_even_start B (Ex base) 1000 (g_stride_of.mono (by decide)) (g_is_free.mono (by decide))
  have g_gaps_below : FnG (PySem.Challenge.rw_plotwardens_k12_cores_of_programs).prog w K mg base "gaps_below" 4 none 1 R_gaps_below := G_gaps_below (k := 0) u_gaps_below m_gaps_below b_gaps_below B (Ex base)
  have g_place_for : FnG (PySem.Challenge.rw_plotwardens_k12_cores_of_programs).prog w K mg base "place_for" 7 none 3 R_place_for := G_place_for (k := 3) u_place_for m_place_for b_place_for B (Ex base) (g_even_start.mono (by decide)) (g_gaps_below.mono (by decide)) (g_top_of.mono (by decide)) (g_chosen_gap.mono (by decide))
  have g_tops_of : FnG (PySem.Challenge.rw_plotwardens_k12_cores_of_programs).prog w K mg base "tops_of" 8 none 2 R_tops_of := G_tops_of (k := 4) u_tops_of m_tops_of b_tops_of B (Ex base) (g_place_for.mono (by decide)) (g_with_plot.mono (by decide)) (g_without_plot.mono (by decide)) (g_top_of.mono (by decide))
  have g_is_core : FnG (PySem.Challenge.rw_plotwardens_k12_cores_of_programs).prog w K mg base "is_core" 9 none 4 R_is_core := G_is_core (k := 5) u_is_core m_is_core b_is_core B (Ex base) (g_is_rule.mono (by decide)) (g_is_number.mono (by decide)) (g_is_program.mono (by decide)) (g_tops_of.mono (by decide)) (g_kept_steps.mono (by decide))
  have g__law_rows : FnG (PySem.Challenge.rw_plotwardens_k12_cores_of_programs).prog w K mg base "_law_rows" 4 none 2 R__law_rows := G__law_rows (k := 0) u__law_rows m__law_rows b__law_rows B (Ex base)
  have g__law_odd : FnG (PySem.Challenge.rw_plotwardens_k12_cores_of_programs).prog w K mg base "_law_odd" 6 (some 0) 2 R__law_odd := G__law_odd (k := 2) u__law_odd m__law_odd b__law_odd B (Ex base) (g__law_pick.mono (by decide))
  have r__law_bent : ∀ n : Nat, FnG (PySem.Challenge.rw_plotwardens_k12_cores_of_programs).prog w K mg base "_law_bent" (n + 4 + 3) (some 0) 3 (R__law_bent n) := fun n => by
    induction n with
    | zero => exact (fnG_bad (k := 2) u__law_bent m__law_bent b__law_bent S__law_bent).mono (by omega)
    | succ n ih => exact (G__law_bent (k := n + 4) u__law_bent m__law_bent b__law_bent B (Ex base) (g__law_draw.mono (by omega)) ih (g__law_odd.mono (by omega))).mono (by omega)
  have g__law_bent : FnG (PySem.Challenge.rw_plotwardens_k12_cores_of_programs).prog w K mg base "_law_bent" 19 (some 0) 3 (R__law_bent 12) := r__law_bent 12
  have g_need_rule : FnG (PySem.Challenge.rw_plotwardens_k12_cores_of_programs).prog w K mg base "need_rule" 5 none 1 R_need_rule := G_need_rule (k := 1) u_need_rule m_need_rule b_need_rule B (Ex base) (g_is_rule.mono (by decide))
  have g_need_program : FnG (PySem.Challenge.rw_plotwardens_k12_cores_of_programs).prog w K mg base "need_program" 7 none 2 R_need_program := G_need_program (k := 3) u_need_program m_need_program b_need_program B (Ex base) (g_need_rule.mono (by decide)) (g_is_program.mono (by decide))
  have g_program_room : FnG (PySem.Challenge.rw_plotwardens_k12_cores_of_programs).prog w K mg base "program_room" 9 none 2 R_program_room := G_program_room (k := 5) u_program_room m_program_room b_program_room B (Ex base) (g_need_program.mono (by decide)) (g_tops_of.mono (by decide))
  have g_need_number : FnG (PySem.Challenge.rw_plotwardens_k12_cores_of_programs).prog w K mg base "need_number" 5 none 3 R_need_number := G_need_number (k := 1) u_need_number m_need_number b_need_number B (Ex base) (g_is_number.mono (by decide))
  have g_is_refused : FnG (PySem.Challenge.rw_plotwardens_k12_cores_of_programs).prog w K mg base "is_refused" 9 none 3 R_is_refused := G_is_refused (k := 5) u_is_refused m_is_refused b_is_refused B (Ex base) (g_need_program.mono (by decide)) (g_need_number.mono (by decide)) (g_tops_of.mono (by decide))
  have g__law_left : FnG (PySem.Challenge.rw_plotwardens_k12_cores_of_programs).prog w K mg base "_law_left" 4 none 2 R__law_left := G__law_left (k := 0) u__law_left m__law_left b__law_left B (Ex base)
  have g_core : FnG (PySem.Challenge.rw_plotwardens_k12_cores_of_programs).prog w K mg base "core" 10 none 3 R_core := G_core (k := 6) u_core m_core b_core B (Ex base) 1000 (g_is_refused.mono (by decide)) (g_kept_steps.mono (by decide)) (g_tops_of.mono (by decide))
  have eQ : (("law" : Str) ++ ".<locals>.") ++ "<lambda>" = "law.<locals>.<lambda>" := by decide +kernel
  have hrL : RaisesL K mg base (.ref (He.cT K ("law", none)).1) (("law" : Str) ++ ".<locals>.") [((He.cT K ("law", none)).2, "law.<locals>.<lambda>")] hsR := ⟨_, _, _, _, _, _, _, _, _, _, _, _, _, _, _, u__law_raises, m__law_raises, b__law_raises, ⟨rfl, rfl, rfl, by decide +kernel, rfl, by decide +kernel, by decide +kernel⟩, rfl, (.cons rfl (by decide) m_NoPrograms (.cons rfl (by decide) m_NotThere .nil)), fun X eK eM => (.cons (by rw [TabOk, eK, eM]; exact tb_NoPrograms) (.cons (by rw [TabOk, eK, eM]; exact tb_NotThere) .nil)), TB, rfl, by rw [eQ]; exact List.mem_cons_self, fun p hp _ => by cases List.mem_singleton.mp hp; exact eQ.symm, .inl rfl, .inl rfl, fun _ _ => rfl⟩
  exact B_law (k := 16) B (Ex base) (g__law_pot.mono (by decide)) (g__law_rule.mono (by decide)) (g__law_program.mono (by decide)) (g__law_draw.mono (by decide)) (g__law_room.mono (by decide)) (g__law_pick.mono (by decide)) (g__law_same.mono (by decide)) (g_program_room.mono (by decide)) (g_is_refused.mono (by decide)) (g__law_rows.mono (by decide)) (g__law_left.mono (by decide)) (g_core.mono (by decide)) (g__law_bent.mono (by decide)) (g_is_program.mono (by decide)) (g_is_core.mono (by decide)) hw hnr hrL hr
end G_k12
open PySem PySem.W PySem.Calls PyProof.Rows
theorem PySem.Challenge.cw_plotwardens_k12_cores_of_programs_holds : PySem.Challenge.rw_plotwardens_k12_cores_of_programs.Holds := by
  w_on; o_law
  refine HandSHeadRun.head_any (r := OpenLaw.row PySem.Challenge.rw_plotwardens_k12_cores_of_programs) (q := view (OpenLaw.row PySem.Challenge.rw_plotwardens_k12_cores_of_programs).prog [52]) (H := G_k12.hkL) (ob := G_k12.obL) (M := 4000) (loose := G_k12.looseL) (d := HandSHeadRun.topDef (OpenLaw.row PySem.Challenge.rw_plotwardens_k12_cores_of_programs).prog 52) (kwd := []) G_k12.obL_eq
    (by kernel_rfl) (fun s => by kernel_rfl) G_k12.runL (by kernel_rfl) (by kernel_rfl) (by kernel_rfl) (by rfl) (by first | assumption | decide +kernel) (by decide +kernel) ⟨rfl, rfl, rfl, rfl, rfl, by decide +kernel⟩ ?hw ?hc
  case hw => w_witness2
  case hc =>
    refine LamX.walk_ofTsE (l := PySem.Challenge.rw_plotwardens_k12_cores_of_programs) (n := 63) (k := 22) (x := "script") (CX := fun w => L2.CX (PySem.Challenge.rw_plotwardens_k12_cores_of_programs).prog w) rfl (by decide) (by kernel_rfl) ⟨rfl, by decide, by decide⟩ ?F (fun w H s e s' z => ?G)
    case G =>
      obtain ⟨_, _, _, _, _, _, _, _, _, _, _, _, z⟩ := z
      exact z.elim
    case F =>
      intro w mg fa h Y G hmg0
      have hmg : mg ("law" : PySem.Str) = some (.ref fa) := by
        have e : (HandSHeadRun.topDef (OpenLaw.row PySem.Challenge.rw_plotwardens_k12_cores_of_programs).prog 52).name = ("law" : PySem.Str) := by kernel_rfl
        rw [← e]
        exact hmg0
      exact G_k12.atL w mg fa h Y G hmg
