import PyProof.Rows.All
import Wide.All
import OpenK.AllK
import Wide.FinOn
import KE.KStateDown
import HandS.ForMost
import HandS.ForExc
import HandS.Defaults
import HandS.HeadHook2
import HandS.HeadHook4
import HandS.Lambda
import HandS.Wide
import HandS.TupAny
import HandS.TupLe
import HandS.Star
import HandS.NoneIn
import HandS.Iter
import HandS.ExcOwn
import HandS.CallSlots
import HandS.Property
import HandS.IsInst
import HandS.FStr
import HandS.OwnEq
import HandS.ExcInit
import HandS.ExcValue
import HandS.ExcField
import HandS.Nested
import KE.KExcSuper
import HandS.ExcIs
import HandS.RaiseMore
import HandS.More
import HandS.ClsMeth
import HandS.Head2
import HandS.HeadEnd
import HandS.HeadWalk
import KE.KCallOwn
import HandS.ReplaceLit
import HandS.MakeKw
import HandS.Style
import HandS.StrMore
import HandS.Deep
import KE.KOpsOwn
import KE.SortData
import KE.DataFind
import HandS.TupLen
import HandS.Conv
import PySem.Challenge.RW_everycube_k32_pieces_and_kinds
set_option Elab.async false
set_option linter.all false
set_option maxRecDepth 100000
set_option maxHeartbeats 4000000
namespace C
open PySem L2

/-! ### plain data -/
inductive D where
  | non | bl (b : Bool) | int (i : Int) | str (x : Str)
  | tup (l : List D) | lst (l : List D)
  | dK (l : List (Key × D)) | dT (l : List (List Key × D))
  | ins (c : Str) (fs : List (Str × D))
  | ty (n : String) | gl (x : Str) | scr (l : List Int)
  | exc (c : Str) (fs : List (Str × D))
  deriving Inhabited

abbrev Fg := PySem.W.Frag
abbrev ga := @He.ga
/-- an exception held as a value -/
def EXO (cls : Value) (d : Option Addr) (a : Addr) : HO := .ext fun h => ∃ (oe : Obj) (vs : Array Value), h.get? a = some oe ∧ Zc cls d oe ∧ oe.data = .fields vs

mutual
def Rep (K : Fg) (G : Hp) : D → V → Prop
  | .non, v => v = .non
  | .bl b, v => v = .bl b
  | .int i, v => v = .int i
  | .str x, v => v = .str x
  | .ty n, v => v = .ty n
  | .gl x, v => v = .ref (ga K x)
  | .tup l, v => ∃ a xs, v = .ref a ∧ (G a = some (.tup xs) ∨ (xs = [] ∧ SqT K G a xs)) ∧ Reps K G l xs
  | .scr l, v => ∃ a, v = .ref a ∧ SqL K G a (l.map V.int)
  | .lst l, v => ∃ a xs, v = .ref a ∧ G a = some (.lst xs) ∧ Reps K G l xs
  | .dK l, v => ∃ a kvs, v = .ref a ∧ Rd G a (.dK kvs) ∧ RepK K G l kvs
  | .dT l, v => ∃ a kvs, v = .ref a ∧ Rd G a (.dT kvs) ∧ RepT K G l kvs
  | .ins c fs, v => ∃ a dx xs, v = .ref a ∧ G a = some (.ins (ga K c) dx xs) ∧ RepF K G fs xs
  | .exc c fs, v => ∃ a d, v = .ref a ∧ G a = some (EXO (.ref (ga K c)) d a) ∧ ((fs = [] ∧ d = none) ∨ ∃ dd xs, d = some dd ∧ G dd = some (.xd xs) ∧ RepF K G fs xs)
def Reps (K : Fg) (G : Hp) : List D → List V → Prop
  | [], xs => xs = []
  | d :: l, xs => ∃ x r, xs = x :: r ∧ Rep K G d x ∧ Reps K G l r
def RepK (K : Fg) (G : Hp) : List (Key × D) → List (Key × V) → Prop
  | [], xs => xs = []
  | (k, d) :: l, xs => ∃ x r, xs = (k, x) :: r ∧ Rep K G d x ∧ RepK K G l r
def RepT (K : Fg) (G : Hp) : List (List Key × D) → List (List Key × V) → Prop
  | [], xs => xs = []
  | (k, d) :: l, xs => ∃ x r, xs = (k, x) :: r ∧ Rep K G d x ∧ RepT K G l r
def RepF (K : Fg) (G : Hp) : List (Str × D) → List (Str × V) → Prop
  | [], xs => xs = []
  | (k, d) :: l, xs => ∃ x r, xs = (k, x) :: r ∧ Rep K G d x ∧ RepF K G l r
end

def isD (o : HO) : Prop := (∃ x, o = .dK x) ∨ ∃ x, o = .dT x
def notD (o : HO) : Prop := ¬ isD o ∧ ∀ ob u, o = .frz ob u → ¬ isD u
theorem isD.not {o : HO} (h1 : ∀ x, o ≠ .dK x) (h2 : ∀ x, o ≠ .dT x) : ¬ isD o := fun h => h.elim (fun ⟨x, e⟩ => h1 x e) fun ⟨x, e⟩ => h2 x e
theorem notD_lst (xs : List V) : notD (.lst xs) := ⟨isD.not (fun _ e => by cases e) (fun _ e => by cases e), fun _ _ e => by cases e⟩
theorem notD_tup (xs : List V) : notD (.tup xs) := ⟨isD.not (fun _ e => by cases e) (fun _ e => by cases e), fun _ _ e => by cases e⟩
theorem notD_ins (C dx : Addr) (xs : List (Str × V)) : notD (.ins C dx xs) := ⟨isD.not (fun _ e => by cases e) (fun _ e => by cases e), fun _ _ e => by cases e⟩
theorem notD_ext (φ : Heap → Prop) : notD (.ext φ) := ⟨isD.not (fun _ e => by cases e) (fun _ e => by cases e), fun _ _ e => by cases e⟩
theorem notD_xd (xs : List (Str × V)) : notD (.xd xs) := ⟨isD.not (fun _ e => by cases e) (fun _ e => by cases e), fun _ _ e => by cases e⟩
theorem notD_frz {o : Obj} {u : HO} (h : notD u) : notD (.frz o u) := ⟨isD.not (fun _ e => by cases e) (fun _ e => by cases e), fun _ _ e => by cases e; exact h.1⟩
/-- G' tells at least what G tells (a dict may be locked in the one and not in the other) -/
structure Le (G G' : Hp) : Prop where
  ex : ∀ a o, notD o → G a = some o → G' a = some o
  dd : ∀ a u, isD u → Rd G a u → Rd G' a u

theorem Le.of_same {G G' : Hp} (h : Same G G') : Le G G' :=
  ⟨fun a o _ e => h _ _ e, fun a u _ r => r.elim (fun e => .inl (h _ _ e)) fun ⟨o, e⟩ => .inr ⟨o, h _ _ e⟩⟩
theorem Le.refl (G : Hp) : Le G G := ⟨fun _ _ _ e => e, fun _ _ _ r => r⟩
theorem Le.trans {G1 G2 G3 : Hp} (h : Le G1 G2) (k : Le G2 G3) : Le G1 G3 :=
  ⟨fun a o n e => k.ex a o n (h.ex a o n e), fun a u n r => k.dd a u n (h.dd a u n r)⟩
theorem Le.rd {G G' : Hp} {a : Addr} {u : HO} (h : Le G G') (n : notD u) (r : Rd G a u) : Rd G' a u :=
  r.elim (fun e => .inl (h.ex _ _ n e)) fun ⟨o, e⟩ => .inr ⟨o, h.ex _ _ (notD_frz n) e⟩
theorem Le.sqL {K : Fg} {G G' : Hp} {a : Addr} {xs : List V} (h : Le G G') (s : SqL K G a xs) : SqL K G' a xs :=
  s.elim (fun r => .inl (h.rd (notD_lst _) r)) .inr
theorem Le.sqT {K : Fg} {G G' : Hp} {a : Addr} {xs : List V} (h : Le G G') (s : SqT K G a xs) : SqT K G' a xs :=
  s.elim (fun r => .inl (h.rd (notD_tup _) r)) .inr

mutual
theorem Rep.mono {K : Fg} {G G' : Hp} (h : Le G G') : ∀ (d : D) (v : V), Rep K G d v → Rep K G' d v
  | .non, v, r => r
  | .bl b, v, r => r
  | .int i, v, r => r
  | .str x, v, r => r
  | .ty n, v, r => r
  | .gl x, v, r => r
  | .tup l, v, r => by
    obtain ⟨a, xs, e, s, q⟩ := r
    exact ⟨a, xs, e, s.imp (h.ex _ _ (notD_tup _)) (fun z => ⟨z.1, h.sqT z.2⟩), Reps.mono h l xs q⟩
  | .scr l, v, r => by
    obtain ⟨a, e, s⟩ := r
    exact ⟨a, e, h.sqL s⟩
  | .lst l, v, r => by
    obtain ⟨a, xs, e, s, q⟩ := r
    exact ⟨a, xs, e, h.ex _ _ (notD_lst _) s, Reps.mono h l xs q⟩
  | .dK l, v, r => by
    obtain ⟨a, xs, e, s, q⟩ := r
    exact ⟨a, xs, e, h.dd _ _ (.inl ⟨_, rfl⟩) s, RepK.mono h l xs q⟩
  | .dT l, v, r => by
    obtain ⟨a, xs, e, s, q⟩ := r
    exact ⟨a, xs, e, h.dd _ _ (.inr ⟨_, rfl⟩) s, RepT.mono h l xs q⟩
  | .ins c fs, v, r => by
    obtain ⟨a, dx, xs, e, s, q⟩ := r
    exact ⟨a, dx, xs, e, h.ex _ _ (notD_ins _ _ _) s, RepF.mono h fs xs q⟩
  | .exc c fs, v, r => by
    obtain ⟨a, d, e, s, q⟩ := r
    refine ⟨a, d, e, h.ex _ _ (notD_ext _) s, q.imp id fun ⟨dd, xs, e1, e2, e3⟩ => ⟨dd, xs, e1, h.ex _ _ (notD_xd _) e2, RepF.mono h fs xs e3⟩⟩
theorem Reps.mono {K : Fg} {G G' : Hp} (h : Le G G') : ∀ (l : List D) (xs : List V), Reps K G l xs → Reps K G' l xs
  | [], xs, r => r
  | d :: l, xs, r => by
    obtain ⟨x, t, e, p, q⟩ := r
    exact ⟨x, t, e, Rep.mono h d x p, Reps.mono h l t q⟩
theorem RepK.mono {K : Fg} {G G' : Hp} (h : Le G G') : ∀ (l : List (Key × D)) (xs : List (Key × V)), RepK K G l xs → RepK K G' l xs
  | [], xs, r => r
  | (k, d) :: l, xs, r => by
    obtain ⟨x, t, e, p, q⟩ := r
    exact ⟨x, t, e, Rep.mono h d x p, RepK.mono h l t q⟩
theorem RepT.mono {K : Fg} {G G' : Hp} (h : Le G G') : ∀ (l : List (List Key × D)) (xs : List (List Key × V)), RepT K G l xs → RepT K G' l xs
  | [], xs, r => r
  | (k, d) :: l, xs, r => by
    obtain ⟨x, t, e, p, q⟩ := r
    exact ⟨x, t, e, Rep.mono h d x p, RepT.mono h l t q⟩
theorem RepF.mono {K : Fg} {G G' : Hp} (h : Le G G') : ∀ (l : List (Str × D)) (xs : List (Str × V)), RepF K G l xs → RepF K G' l xs
  | [], xs, r => r
  | (k, d) :: l, xs, r => by
    obtain ⟨x, t, e, p, q⟩ := r
    exact ⟨x, t, e, Rep.mono h d x p, RepF.mono h l t q⟩
end

/-- what stands in an object that a name alone holds; its parts are frozen -/
def ORep (K : Fg) (G : Hp) : D → HO → Prop
  | .lst l, o => ∃ xs, o = .lst xs ∧ Reps K G l xs
  | .dK l, o => ∃ xs, o = .dK xs ∧ RepK K G l xs
  | .dT l, o => ∃ xs, o = .dT xs ∧ RepT K G l xs
  | .ins c fs, o => ∃ dx xs, o = .ins (ga K c) dx xs ∧ RepF K G fs xs
  | _, _ => False
theorem ORep.mono {K : Fg} {G G' : Hp} (h : Le G G') {d : D} {o : HO} (r : ORep K G d o) : ORep K G' d o := by
  cases d with
  | lst l => obtain ⟨xs, e, q⟩ := r; exact ⟨xs, e, Reps.mono h _ _ q⟩
  | dK l => obtain ⟨xs, e, q⟩ := r; exact ⟨xs, e, RepK.mono h _ _ q⟩
  | dT l => obtain ⟨xs, e, q⟩ := r; exact ⟨xs, e, RepT.mono h _ _ q⟩
  | ins c fs => obtain ⟨dx, xs, e, q⟩ := r; exact ⟨dx, xs, e, RepF.mono h _ _ q⟩
  | _ => exact r.elim

/-! ### the frame -/
abbrev Env := List (Option D)
structure SC where
  N : List Str
  kd : Str → Option NameKind
  ow : List Nat
  rp : List Nat
  calm : Bool
  fnl : Bool
  fr : Bool
  df : Option Str
/-- fixed through a body: the heap at its entry, what must stay, what is frozen at the entry -/
structure Fx where
  B : Hp
  F : Hp
  G0 : Hp
  par : St
def At (L : List Addr) (H : Hp) (a : Addr) (o : HO) : Prop := (a ∉ L ∧ H a = some o) ∨ (a ∈ L ∧ ∃ ob, H a = some (.frz ob o))
theorem At.rd {L : List Addr} {H : Hp} {a : Addr} {o : HO} (h : At L H a o) : Rd H a o := h.elim (fun h => .inl h.2) fun h => .inr h.2
theorem At.some {L : List Addr} {H : Hp} {a : Addr} {o : HO} (h : At L H a o) : H a ≠ none := by
  rcases h with ⟨_, e⟩ | ⟨_, ob, e⟩ <;> rw [e] <;> simp

/-! the defs whose bodies hold lambdas: the name, the lambdas' qualified name -/
def lamDefs : List (Str × Str) := [("_law_no_size", "_law_no_size.<locals>.<lambda>"), ("_law_refusals_hold", "_law_refusals_hold.<locals>.<lambda>")]
def lamT (K : Fg) : List (Addr × Str) := lamDefs.map fun p => (He.tabOf K (He.codeOf K (p.1, none)), p.2)
def noTb (G : Hp) : Prop := ∀ a ps, G a ≠ some (.tbl ps)
structure TbOk (K : Fg) (F G H : Hp) : Prop where
  tabs : LamX.Tabs (lamT K) H
  g : noTb G
  f : noTb F
/-- no table, nothing of the kit's own -/
def plainO (o : HO) : Prop := (∀ ps, o ≠ .tbl ps) ∧ ∀ φ, o ≠ .ext φ
theorem ORep.plain {K : Fg} {G : Hp} {d : D} {o : HO} (r : ORep K G d o) : plainO o := by
  cases d with
  | lst l => obtain ⟨xs, rfl, _⟩ := r; exact ⟨(fun _ e => by cases e), (fun _ e => by cases e)⟩
  | dK l => obtain ⟨xs, rfl, _⟩ := r; exact ⟨(fun _ e => by cases e), (fun _ e => by cases e)⟩
  | dT l => obtain ⟨xs, rfl, _⟩ := r; exact ⟨(fun _ e => by cases e), (fun _ e => by cases e)⟩
  | ins c fs => obtain ⟨dx, xs, rfl, _⟩ := r; exact ⟨(fun _ e => by cases e), (fun _ e => by cases e)⟩
  | _ => exact r.elim
theorem tabs_keep {T : List (Addr × Str)} {H H' : Hp} (t : LamX.Tabs T H) (h : ∀ a o, H a = some o → ¬ plainO o → H' a = some o) : LamX.Tabs T H' := fun p hp => by
  obtain ⟨ps, h1, h2, h3⟩ := t p hp
  refine ⟨ps, h _ _ h1 (fun z => z.1 _ rfl), h2, fun pos cv hc => ?_⟩
  obtain ⟨c, e1, e2⟩ := h3 pos cv hc
  exact ⟨c, e1, h _ _ e2 (fun z => z.2 _ rfl)⟩
theorem noTb.upd {G : Hp} {a : Addr} {o : HO} (h : noTb G) (ho : ∀ ps, o ≠ .tbl ps) : noTb (upd G a o) := fun b ps e => by
  by_cases hb : b = a
  · subst hb; rw [upd_same] at e; exact ho ps (Option.some.inj e)
  · rw [upd_ne hb] at e; exact h b ps e

def isTp (o : HO) : Prop := ∃ xs, o = .tup xs
theorem ORep.ntp {K : Fg} {G : Hp} {d : D} {o : HO} (r : ORep K G d o) : ¬ isTp o := by
  rintro ⟨ys, rfl⟩
  cases d with
  | lst l => obtain ⟨xs, e, _⟩ := r; cases e
  | dK l => obtain ⟨xs, e, _⟩ := r; cases e
  | dT l => obtain ⟨xs, e, _⟩ := r; cases e
  | ins c fs => obtain ⟨dx, xs, e, _⟩ := r; cases e
  | _ => exact r.elim
structure Rel (sc : SC) (K : Fg) (f : Fx) (L : List Addr) (G H : Hp) (σ : St) (env : Env) : Prop where
  sub : ∀ a o, G a = some o → At L H a o
  frm : ∀ a o, f.F a = some o → At L H a o
  new : ∀ a o, G a = some o → f.G0 a = some o ∨ f.B a = none ∨ isTp o
  g0 : Same f.G0 G
  dom : ∀ a, H a = none → f.B a = none
  lk : ∀ a ∈ L, H a ≠ none ∧ (∀ o, G a = some o → isD o) ∧ ∃ ob u, H a = some (.frz ob u)
  len : env.length = σ.length
  frz : ∀ i d, i ∉ sc.ow → env[i]? = some (some d) → ∃ v, σ[i]? = some (some v) ∧ Rep K G d v
  own : ∀ i d, i ∈ sc.ow → env[i]? = some (some d) → ∃ a o, σ[i]? = some (some (.ref a)) ∧ H a = some o ∧ ORep K G d o ∧ G a = none ∧ f.F a = none ∧ a ∉ L ∧ (i ∈ sc.rp ∨ f.B a = none)
  dis : ∀ i j di dj a, i ∈ sc.ow → j ∈ sc.ow → env[i]? = some (some di) → env[j]? = some (some dj) → σ[i]? = some (some (.ref a)) → σ[j]? = some (some (.ref a)) → i = j
  par : ∀ p ∈ sc.rp, σ[p]? = f.par[p]?
  rpo : ∀ p ∈ sc.rp, p ∈ sc.ow
  lim : ∀ p ∈ sc.ow, p < σ.length
  gf : ∀ a o, f.F a = some o → f.B a = none → ¬ isTp o → G a = none
  tab : TbOk K f.F G H

theorem Rel.gnone {sc : SC} {K : Fg} {f : Fx} {L : List Addr} {G H : Hp} {σ : St} {env : Env} (R : Rel sc K f L G H σ env) {a : Addr} (h : H a = none) : G a = none := by
  cases e : G a with
  | none => rfl
  | some o => exact absurd h (R.sub a o e).some
theorem Rel.chg {sc : SC} {K : Fg} {f : Fx} {L : List Addr} {G G' H H' : Hp} {σ : St} {env env' : Env} (as : List Addr) (R : Rel sc K f L G H σ env)
    (hH : ∀ a o, H a = some o → a ∉ as → (∀ ps, o ≠ .tbl ps) → H' a = some o) (hT : LamX.Tabs (lamT K) H') (hdm : ∀ a, H' a = none → H a = none) (hG : Same G G') (hn : ∀ a o, G' a = some o → G a = some o ∨ (H a = none ∧ H' a = some o) ∨ (isTp o ∧ H' a = some o))
    (has : ∀ a ∈ as, G a = none ∧ f.F a = none ∧ a ∉ L ∧ H' a ≠ none) (hnt : noTb G') (hl : env'.length = env.length)
    (he : ∀ i d, env'[i]? = some (some d) → (env[i]? = some (some d) ∧ (i ∈ sc.ow → ∀ a, σ[i]? = some (some (.ref a)) → a ∉ as)) ∨
      (i ∈ sc.ow ∧ (∃ d0, env[i]? = some (some d0)) ∧ ∃ a o, σ[i]? = some (some (.ref a)) ∧ H' a = some o ∧ ORep K G' d o)) : Rel sc K f L G' H' σ env' := by
  have hAt : ∀ a o, G a = some o → At L H' a o := fun a o e => by
    have na : a ∉ as := fun h => by rw [(has a h).1] at e; cases e
    rcases R.sub a o e with ⟨h1, h2⟩ | ⟨h1, ob, h2⟩
    · exact .inl ⟨h1, hH _ _ h2 na fun ps z => R.tab.g a ps (z ▸ e)⟩
    · exact .inr ⟨h1, ob, hH _ _ h2 na (fun ps z => by cases z)⟩
  have hNone : ∀ a, H' a = none → H a = none := hdm
  have hlk : ∀ a xs, a ∈ L → H' a = some (.tup xs) → False := fun a xs ha e => by
    obtain ⟨ob, u, z⟩ := (R.lk a ha).2.2
    have := hH a _ z (fun q => (has a q).2.2.1 ha) (fun ps w => by cases w)
    rw [e] at this
    cases this
  have hassigned : ∀ i d, env'[i]? = some (some d) → i ∈ sc.ow → ∃ d0, env[i]? = some (some d0) := fun i d e hi => by
    rcases he i d e with ⟨h, _⟩ | ⟨_, h, _⟩
    · exact ⟨d, h⟩
    · exact h
  refine ⟨fun a o e => ?_, fun a o e => ?_, fun a o e => ?_, R.g0.trans hG, fun a e => R.dom a (hNone a e), fun a ha => ⟨fun q => (R.lk a ha).1 (hNone a q), fun o e => (hn a o e).elim ((R.lk a ha).2.1 o) fun z => z.elim (fun z => absurd z.1 (R.lk a ha).1) fun ⟨⟨xs, z1⟩, z2⟩ => (hlk a xs ha (z1 ▸ z2)).elim, (R.lk a ha).2.2.imp fun ob ⟨u, z⟩ => ⟨u, hH a _ z (fun q => (has a q).2.2.1 ha) (fun ps w => by cases w)⟩⟩, hl.trans R.len, fun i d hi e => ?_, fun i d hi e => ?_, fun i j di dj a hi hj ei ej => ?_, R.par, R.rpo, R.lim, fun a o e1 e2 nt => ?_, ⟨hT, hnt, R.tab.f⟩⟩
  · rcases hn a o e with h | ⟨h1, h2⟩ | ⟨⟨xs, h1⟩, h2⟩
    · exact hAt a o h
    · exact .inl ⟨fun z => (R.lk a z).1 h1, h2⟩
    · exact .inl ⟨fun z => hlk a xs z (h1 ▸ h2), h2⟩
  · have na : a ∉ as := fun h => by rw [(has a h).2.1] at e; cases e
    rcases R.frm a o e with ⟨h1, h2⟩ | ⟨h1, ob, h2⟩
    · exact .inl ⟨h1, hH _ _ h2 na fun ps z => R.tab.f a ps (z ▸ e)⟩
    · exact .inr ⟨h1, ob, hH _ _ h2 na (fun ps z => by cases z)⟩
  · rcases hn a o e with h | ⟨h1, _⟩ | ⟨h1, _⟩
    · exact R.new a o h
    · exact .inr (.inl (R.dom a h1))
    · exact .inr (.inr h1)
  · rcases he i d e with ⟨h, _⟩ | ⟨h, _⟩
    · obtain ⟨v, h1, h2⟩ := R.frz i d hi h
      exact ⟨v, h1, Rep.mono (Le.of_same hG) _ _ h2⟩
    · exact absurd h hi
  · rcases he i d e with ⟨h, hna⟩ | ⟨_, ⟨d0, h0⟩, a, o, h1, h2, h3⟩
    · obtain ⟨a, o, h1, h2, h3, h4, h5, h6, h7⟩ := R.own i d hi h
      have na := hna hi a h1
      refine ⟨a, o, h1, hH _ _ h2 na h3.plain.1, h3.mono (Le.of_same hG), ?_, h5, h6, h7⟩
      cases q : G' a with
      | none => rfl
      | some o' =>
        rcases hn a o' q with z | ⟨z, _⟩ | ⟨z, z2⟩
        · rw [h4] at z; cases z
        · rw [h2] at z; cases z
        · rw [hH _ _ h2 na h3.plain.1] at z2; cases z2; exact (h3.ntp z).elim
    · obtain ⟨a', o', k1, k2, k3, k4, k5, k6, k7⟩ := R.own i d0 hi h0
      rw [h1] at k1
      cases k1
      refine ⟨a, o, h1, h2, h3, ?_, k5, k6, k7⟩
      cases q : G' a with
      | none => rfl
      | some o'' =>
        rcases hn a o'' q with z | ⟨z, _⟩ | ⟨z, z2⟩
        · rw [k4] at z; cases z
        · rw [k2] at z; cases z
        · rw [h2] at z2; cases z2; exact (h3.ntp z).elim
  · obtain ⟨d1, e1⟩ := hassigned i di ei hi
    obtain ⟨d2, e2⟩ := hassigned j dj ej hj
    exact R.dis i j d1 d2 a hi hj e1 e2
  · cases e : G' a with
    | none => rfl
    | some u =>
      rcases hn a u e with z | ⟨z, _⟩ | ⟨z, z2⟩
      · rw [R.gf a o e1 e2 nt] at z; cases z
      · exact absurd z (R.frm a o e1).some
      · rcases R.frm a o e1 with ⟨h1, h2⟩ | ⟨h1, ob, h2⟩
        · have na : a ∉ as := fun h => by rw [(has a h).2.1] at e1; cases e1
          rw [hH _ _ h2 na fun ps w => R.tab.f a ps (w ▸ e1)] at z2
          cases z2
          exact (nt z).elim
        · obtain ⟨xs, z⟩ := z
          exact (hlk a xs h1 (z ▸ z2)).elim
/-- new objects alone -/
theorem Rel.grow {sc : SC} {K : Fg} {f : Fx} {L : List Addr} {G G' H H' : Hp} {σ : St} {env : Env} (R : Rel sc K f L G H σ env)
    (hH : Same H H') (hG : Same G G') (hn : ∀ a o, G' a = some o → G a = some o ∨ (H a = none ∧ H' a = some o) ∨ (isTp o ∧ H' a = some o)) (hnt : noTb G') : Rel sc K f L G' H' σ env :=
  R.chg [] (fun a o e _ _ => hH a o e) (R.tab.tabs.ext hH) (fun a e => by
    cases q : H a with
    | none => rfl
    | some o => rw [hH a o q] at e; cases e) hG hn (fun a h => by cases h) hnt rfl fun i d e => .inl ⟨e, fun _ _ _ h => by cases h⟩
theorem same_upd {H : Hp} {p : Addr} {o : HO} (h : H p = none) : Same H (upd H p o) := fun b u e => by
  rw [upd_ne (ne_of_none e h)]; exact e
theorem Rel.alloc {sc : SC} {K : Fg} {f : Fx} {L : List Addr} {G H : Hp} {σ : St} {env : Env} (R : Rel sc K f L G H σ env) {p : Addr} {o : HO} (hp : H p = none) (ho : ∀ ps, o ≠ .tbl ps := by intro _ z; cases z) : Rel sc K f L (upd G p o) (upd H p o) σ env :=
  R.grow (same_upd hp) (same_upd (R.gnone hp)) (fun a u e => by
    by_cases h : a = p
    · subst h; rw [upd_same] at e; cases e; exact .inr (.inl ⟨hp, upd_same⟩)
    · rw [upd_ne h] at e; exact .inl e) (R.tab.g.upd ho)
/-- what may be read in G may be read in H -/
theorem Rel.le {sc : SC} {K : Fg} {f : Fx} {L : List Addr} {G H : Hp} {σ : St} {env : Env} (R : Rel sc K f L G H σ env) : Le G H := by
  have nd : ∀ a o, G a = some o → ¬ isD o → H a = some o := fun a o e n => by
    rcases R.sub a o e with ⟨_, h⟩ | ⟨hl, _⟩
    · exact h
    · exact absurd ((R.lk a hl).2.1 o e) n
  refine ⟨fun a o n e => nd a o e n.1, fun a u n r => ?_⟩
  rcases r with e | ⟨o, e⟩
  · exact (R.sub a u e).rd
  · exact .inr ⟨o, nd a _ e (isD.not (fun _ z => by cases z) (fun _ z => by cases z))⟩

/-! ### results -/
inductive ER where
  | ok (d : D) (env : Env)
  | exc (c : Str) (fs : List (Str × D)) (env : Env)
  | bad
inductive AR where
  | ok (ds : List D) (env : Env)
  | exc (c : Str) (fs : List (Str × D)) (env : Env)
  | bad
inductive TR where
  | ok (b : Bool) (env : Env)
  | exc (c : Str) (fs : List (Str × D)) (env : Env)
  | bad
inductive SR where
  | nx (env : Env)
  | rt (d : D) (env : Env)
  | bk (env : Env)
  | ct (env : Env)
  | exc (c : Str) (fs : List (Str × D)) (env : Env)
  | bad
inductive FR where
  | ret (d : D) (ds : List D)
  | exc (c : Str) (fs : List (Str × D)) (ds : List D)
  | bad
def ER.bind (r : ER) (k : D → Env → ER) : ER := match r with | .ok d e => k d e | .exc c fs e => .exc c fs e | .bad => .bad
def ER.bindA (r : ER) (k : D → Env → AR) : AR := match r with | .ok d e => k d e | .exc c fs e => .exc c fs e | .bad => .bad
def ER.bindT (r : ER) (k : D → Env → TR) : TR := match r with | .ok d e => k d e | .exc c fs e => .exc c fs e | .bad => .bad
def ER.bindS (r : ER) (k : D → Env → SR) : SR := match r with | .ok d e => k d e | .exc c fs e => .exc c fs e | .bad => .bad
def AR.bind (r : AR) (k : List D → Env → ER) : ER := match r with | .ok d e => k d e | .exc c fs e => .exc c fs e | .bad => .bad
def AR.bindA (r : AR) (k : List D → Env → AR) : AR := match r with | .ok d e => k d e | .exc c fs e => .exc c fs e | .bad => .bad
def TR.bind (r : TR) (k : Bool → Env → ER) : ER := match r with | .ok d e => k d e | .exc c fs e => .exc c fs e | .bad => .bad
def TR.bindT (r : TR) (k : Bool → Env → TR) : TR := match r with | .ok d e => k d e | .exc c fs e => .exc c fs e | .bad => .bad
def TR.bindS (r : TR) (k : Bool → Env → SR) : SR := match r with | .ok d e => k d e | .exc c fs e => .exc c fs e | .bad => .bad
def optE (o : Option D) (env : Env) : ER := match o with | some d => .ok d env | none => .bad

/-- an exception's class and own dict -/
def XRep (K : Fg) (G H : Hp) (c : Str) (fs : List (Str × D)) (cls : Value) (d : Option Addr) : Prop :=
  cls = .ref (ga K c) ∧ ((fs = [] ∧ d = none) ∨ ∃ dd xs, d = some dd ∧ G dd = some (.xd xs) ∧ RepF K G fs xs)

/-- a value of an expression: frozen, or (bor) the object of the slot -/
def VRel (sc : SC) (K : Fg) (G : Hp) (σ : St) (env : Env) (bor : Option Nat) (d : D) (v : V) : Prop := match bor with
  | none => Rep K G d v
  | some i => i ∈ sc.ow ∧ env[i]? = some (some d) ∧ σ[i]? = some (some v)

/-- a new object that nothing else holds -/
def FrRel (sc : SC) (K : Fg) (f : Fx) (L : List Addr) (G H : Hp) (σ : St) (env : Env) (d : D) (v : V) : Prop :=
  ∃ a o, v = .ref a ∧ H a = some o ∧ ORep K G d o ∧ G a = none ∧ f.F a = none ∧ a ∉ L ∧ f.B a = none ∧ ∀ i d', i ∈ sc.ow → env[i]? = some (some d') → σ[i]? ≠ some (some (.ref a))
def RtRel (sc : SC) (K : Fg) (f : Fx) (L : List Addr) (G H : Hp) (σ : St) (env : Env) (d : D) (v : V) : Prop :=
  if sc.fr = true then FrRel sc K f L G H σ env d v else Rep K G d v

/-- what is wanted of an exception -/
def XW (sc : SC) (K : Fg) (f : Fx) (L : List Addr) (G : Hp) (σ : St) (W : WX) (c : Str) (fs : List (Str × D)) (env' : Env) : Prop :=
  ∀ H' G' cls d, Rel sc K f L G' H' σ env' → Same G G' → XRep K G' H' c fs cls d → W cls d σ H'
theorem XW.mono {sc : SC} {K : Fg} {f : Fx} {L : List Addr} {G G1 : Hp} {σ : St} {W : WX} (s : Same G G1) (c : Str) (fs : List (Str × D)) (e : Env) (h : XW sc K f L G σ W c fs e) : XW sc K f L G1 σ W c fs e :=
  fun H' G' cls d R s' x => h H' G' cls d R (s.trans s') x
def XWs (sc : SC) (K : Fg) (f : Fx) (L : List Addr) (G : Hp) (W : WX) (c : Str) (fs : List (Str × D)) (env' : Env) : Prop :=
  ∀ σ' H' G' cls d, Rel sc K f L G' H' σ' env' → Same G G' → XRep K G' H' c fs cls d → W cls d σ' H'
theorem XWs.mono {sc : SC} {K : Fg} {f : Fx} {L : List Addr} {G G1 : Hp} {W : WX} (s : Same G G1) (c : Str) (fs : List (Str × D)) (e : Env) (h : XWs sc K f L G W c fs e) : XWs sc K f L G1 W c fs e :=
  fun σ H' G' cls d R s' x => h σ H' G' cls d R (s.trans s') x
theorem XWs.at {sc : SC} {K : Fg} {f : Fx} {L : List Addr} {G : Hp} {W : WX} (σ : St) (c : Str) (fs : List (Str × D)) (e : Env) (h : XWs sc K f L G W c fs e) : XW sc K f L G σ W c fs e :=
  fun H' G' cls d R s' x => h σ H' G' cls d R s' x
abbrev EX := Str → List (Str × D) → Env → Prop
def ER.post (r : ER) (P : D → Env → Prop) (E : EX) : Prop := match r with | .ok d e => P d e | .exc c fs e => E c fs e | .bad => False
def AR.post (r : AR) (P : List D → Env → Prop) (E : EX) : Prop := match r with | .ok d e => P d e | .exc c fs e => E c fs e | .bad => False
def TR.post (r : TR) (P : Bool → Env → Prop) (E : EX) : Prop := match r with | .ok d e => P d e | .exc c fs e => E c fs e | .bad => False
theorem ER.post_mono {r : ER} {P P' : D → Env → Prop} {E E' : EX} (h : r.post P E) (k : ∀ d e, r = .ok d e → P d e → P' d e) (x : ∀ c fs e, E c fs e → E' c fs e) : r.post P' E' := by
  cases r with
  | ok d e => exact k d e rfl h
  | exc c fs e => exact x c fs e h
  | bad => exact h
theorem AR.post_mono {r : AR} {P P' : List D → Env → Prop} {E E' : EX} (h : r.post P E) (k : ∀ d e, r = .ok d e → P d e → P' d e) (x : ∀ c fs e, E c fs e → E' c fs e) : r.post P' E' := by
  cases r with
  | ok d e => exact k d e rfl h
  | exc c fs e => exact x c fs e h
  | bad => exact h
theorem TR.post_mono {r : TR} {P P' : Bool → Env → Prop} {E E' : EX} (h : r.post P E) (k : ∀ d e, r = .ok d e → P d e → P' d e) (x : ∀ c fs e, E c fs e → E' c fs e) : r.post P' E' := by
  cases r with
  | ok d e => exact k d e rfl h
  | exc c fs e => exact x c fs e h
  | bad => exact h
theorem ER.post_bind {r : ER} {k : D → Env → ER} {P : D → Env → Prop} {E : EX} (h : (r.bind k).post P E) : r.post (fun d e => (k d e).post P E) E := by cases r <;> exact h
theorem ER.post_bindA {r : ER} {k : D → Env → AR} {P : List D → Env → Prop} {E : EX} (h : (r.bindA k).post P E) : r.post (fun d e => (k d e).post P E) E := by cases r <;> exact h
theorem ER.post_bindT {r : ER} {k : D → Env → TR} {P : Bool → Env → Prop} {E : EX} (h : (r.bindT k).post P E) : r.post (fun d e => (k d e).post P E) E := by cases r <;> exact h
theorem AR.post_bind {r : AR} {k : List D → Env → ER} {P : D → Env → Prop} {E : EX} (h : (r.bind k).post P E) : r.post (fun d e => (k d e).post P E) E := by cases r <;> exact h
theorem AR.post_bindA {r : AR} {k : List D → Env → AR} {P : List D → Env → Prop} {E : EX} (h : (r.bindA k).post P E) : r.post (fun d e => (k d e).post P E) E := by cases r <;> exact h
theorem TR.post_bind {r : TR} {k : Bool → Env → ER} {P : D → Env → Prop} {E : EX} (h : (r.bind k).post P E) : r.post (fun d e => (k d e).post P E) E := by cases r <;> exact h
theorem TR.post_bindT {r : TR} {k : Bool → Env → TR} {P : Bool → Env → Prop} {E : EX} (h : (r.bindT k).post P E) : r.post (fun d e => (k d e).post P E) E := by cases r <;> exact h
theorem optE_post {o : Option D} {env : Env} {P : D → Env → Prop} {E : EX} (h : (optE o env).post P E) : ∃ d, o = some d ∧ P d env := by
  cases o with
  | none => exact h.elim
  | some d => exact ⟨d, rfl, h⟩
def tE (sc : SC) (K : Fg) (bor : Option Nat) (ev : Env → ER) (W : WX) : TE := fun σ H Q => ∃ f L G env, Rel sc K f L G H σ env ∧
  (ev env).post (fun d env' => ∀ v H' G', Rel sc K f L G' H' σ env' → Same G G' → VRel sc K G' σ env' bor d v → Q v H') (XW sc K f L G σ W)
def tF (sc : SC) (K : Fg) (ev : Env → ER) (W : WX) : TE := fun σ H Q => ∃ f L G env, Rel sc K f L G H σ env ∧
  (ev env).post (fun d env' => ∀ v H' G', Rel sc K f L G' H' σ env' → Same G G' → FrRel sc K f L G' H' σ env' d v → Q v H') (XW sc K f L G σ W)
def tAr (sc : SC) (K : Fg) (ev : Env → AR) (W : WX) : TA := fun σ H Q => ∃ f L G env, Rel sc K f L G H σ env ∧
  (ev env).post (fun ds env' => ∀ vs H' G', Rel sc K f L G' H' σ env' → Same G G' → Reps K G' ds vs → Q vs H') (XW sc K f L G σ W)
def tT (sc : SC) (K : Fg) (ev : Env → TR) (W : WX) : TT := fun σ H Q => ∃ f L G env, Rel sc K f L G H σ env ∧
  (ev env).post (fun b env' => ∀ H' G', Rel sc K f L G' H' σ env' → Same G G' → Q b H') (XW sc K f L G σ W)
/-- what is wanted behind a statement -/
structure Wn where
  nx : Env → Prop
  rt : D → Env → Prop
  bk : Env → Prop
  ct : Env → Prop
  ex : EX
def SR.post (r : SR) (w : Wn) : Prop := match r with | .nx e => w.nx e | .rt d e => w.rt d e | .bk e => w.bk e | .ct e => w.ct e | .exc c fs e => w.ex c fs e | .bad => False
theorem SR.post_mono {r : SR} {w w' : Wn} (h : r.post w) (h1 : ∀ e, r = .nx e → w.nx e → w'.nx e) (h2 : ∀ d e, w.rt d e → w'.rt d e) (h3 : ∀ e, w.bk e → w'.bk e) (h4 : ∀ e, w.ct e → w'.ct e) (h5 : ∀ c fs e, w.ex c fs e → w'.ex c fs e) : r.post w' := by
  cases r with
  | nx e => exact h1 e rfl h
  | rt d e => exact h2 d e h
  | bk e => exact h3 e h
  | ct e => exact h4 e h
  | exc c fs e => exact h5 c fs e h
  | bad => exact h
theorem ER.post_bindS {r : ER} {k : D → Env → SR} {w : Wn} (h : (r.bindS k).post w) : r.post (fun d e => (k d e).post w) w.ex := by cases r <;> exact h
theorem TR.post_bindS {r : TR} {k : Bool → Env → SR} {w : Wn} (h : (r.bindS k).post w) : r.post (fun d e => (k d e).post w) w.ex := by cases r <;> exact h
def wnS (sc : SC) (K : Fg) (f : Fx) (L : List Addr) (G : Hp) (W : WX) (D : Ends) : Wn where
  nx env' := ∀ σ' H' G', Rel sc K f L G' H' σ' env' → Same G G' → D.nx σ' H'
  bk env' := ∀ σ' H' G', Rel sc K f L G' H' σ' env' → Same G G' → D.bk σ' H'
  ct env' := ∀ σ' H' G', Rel sc K f L G' H' σ' env' → Same G G' → D.ct σ' H'
  rt d env' := ∀ v σ' H' G', Rel sc K f L G' H' σ' env' → Same G G' → RtRel sc K f L G' H' σ' env' d v → D.rt v H'
  ex := XWs sc K f L G W
def tS (sc : SC) (K : Fg) (ev : Env → SR) (W : WX) : TS := fun D σ H => ∃ f L G env, Rel sc K f L G H σ env ∧ (ev env).post (wnS sc K f L G W D)
theorem wnS_mono {sc : SC} {K : Fg} {f : Fx} {L : List Addr} {G G1 : Hp} {W : WX} {D : Ends} (s : Same G G1) {r : SR} (h : r.post (wnS sc K f L G W D)) : r.post (wnS sc K f L G1 W D) :=
  SR.post_mono h (fun e _ h σ' H' G' R s' => h σ' H' G' R (s.trans s')) (fun d e h v σ' H' G' R s' => h v σ' H' G' R (s.trans s')) (fun e h σ' H' G' R s' => h σ' H' G' R (s.trans s')) (fun e h σ' H' G' R s' => h σ' H' G' R (s.trans s'))
    (XWs.mono s)

/-! ### readings may be strengthened -/
theorem _root_.L2.PE.imp {X : Cx} {e : Expr} {t t' : TE} (h : PE X e t) (k : ∀ σ H Q, t' σ H Q → t σ H Q) : PE X e t' := ⟨fun pins s σ H Q I q => h.run pins s σ H Q I (k σ H Q q)⟩
theorem _root_.L2.PT.imp {X : Cx} {e : Expr} {t t' : TT} (h : PT X e t) (k : ∀ σ H Q, t' σ H Q → t σ H Q) : PT X e t' := ⟨fun pins s σ H Q I q => h.run pins s σ H Q I (k σ H Q q)⟩
theorem _root_.L2.PW.imp {X : Cx} {e : Expr} {t t' : TT} (h : PW X e t) (k : ∀ σ H Q, t' σ H Q → t σ H Q) : PW X e t' := ⟨fun w pins s σ H Q I q => h.run w pins s σ H Q I (k σ H Q q)⟩
theorem _root_.L2.PA.imp {X : Cx} {e : List Expr} {t t' : TA} (h : PA X e t) (k : ∀ σ H Q, t' σ H Q → t σ H Q) : PA X e t' := ⟨fun pos pins s σ H Q I q => h.run pos pins s σ H Q I (k σ H Q q)⟩
theorem _root_.L2.PS.imp {X : Cx} {e : Stmt} {t t' : TS} (h : PS X e t) (k : ∀ D σ H, t' D σ H → t D σ H) : PS X e t' := ⟨fun pins s σ H Q I q => h.run pins s σ H Q I (k Q σ H q)⟩
theorem _root_.L2.PSs.imp {X : Cx} {e : List Stmt} {t t' : TS} (h : PSs X e t) (k : ∀ D σ H, t' D σ H → t D σ H) : PSs X e t' := ⟨fun pins s σ H Q I q => h.run pins s σ H Q I (k Q σ H q)⟩

/-! ### the static context -/
structure XOk (sc : SC) (X : Cx) : Prop where
  N : X.N = sc.N
  nd : X.N.Nodup
  kd : ∀ x, X.env.scope.names.lookup x = sc.kd x
  calm : X.calm = sc.calm
  fnl : sc.fnl = true → ∀ x, X.fn x = true
  un : X.A.units + 100 < cLine
  fk : X.env.scope.kind = .function
  stk : sc.fnl = true → X.stack = X.env :: X.outer ∧ X.env.frame = some X.env.locals
  cod : ∀ d, sc.df = some d → X.env.code = .ref (He.codeOf X.K (d, none)) ∧ X.env.qual = d ++ ".<locals>."

/-- what stands around a body, the same in its blocks -/
structure Rq where
  prog : Program
  w : World
  K : Fg
  mg : Str → Option Value
  base : Heap
  A : Around
def rq (X : Cx) : Rq := ⟨X.prog, X.w, X.K, X.mg, X.base, X.A⟩
/-- an expression's reading by pure meaning -/
structure CE where
  chk : SC → Expr → Bool
  req : Rq → Prop
  bor : Option Nat
  pur : Bool
  ev : Env → ER
  pok : pur = true → ∀ env d env', ev env = .ok d env' → env' = env
  bok : ∀ i, bor = some i → pur = true
  sound : ∀ sc X e W, chk sc e = true → XOk sc X → req (rq X) → Takes X W → PE X e (tE sc X.K bor ev W)
/-- an expression that makes a new object -/
structure CF where
  chk : SC → Expr → Bool
  req : Rq → Prop
  pur : Bool
  ev : Env → ER
  pok : pur = true → ∀ env d env', ev env = .ok d env' → env' = env
  sound : ∀ sc X e W, chk sc e = true → XOk sc X → req (rq X) → Takes X W → PE X e (tF sc X.K ev W)
structure CT where
  chk : SC → Expr → Bool
  req : Rq → Prop
  ev : Env → TR
  sound : ∀ sc X e W, chk sc e = true → XOk sc X → req (rq X) → Takes X W → PT X e (tT sc X.K ev W)
structure CA where
  chk : SC → List Expr → Bool
  req : Rq → Prop
  ev : Env → AR
  sound : ∀ sc X e W, chk sc e = true → XOk sc X → req (rq X) → Takes X W → PA X e (tAr sc X.K ev W)
structure CS where
  chk : SC → Stmt → Bool
  req : Rq → Prop
  ev : Env → SR
  sound : ∀ sc X e W, chk sc e = true → XOk sc X → req (rq X) → Takes X W → PassesOwn (model X.prog X.w) X.A X.env X.xe → PS X e (tS sc X.K ev W)
structure CB where
  chk : SC → List Stmt → Bool
  req : Rq → Prop
  ev : Env → SR
  sound : ∀ sc X e W, chk sc e = true → XOk sc X → req (rq X) → Takes X W → PassesOwn (model X.prog X.w) X.A X.env X.xe → PSs X e (tS sc X.K ev W)

theorem VRel.mono {sc : SC} {K : Fg} {G G' : Hp} {σ : St} {env : Env} {bor : Option Nat} {d : D} {v : V} (h : Le G G') (r : VRel sc K G σ env bor d v) : VRel sc K G' σ env bor d v := by
  cases bor with
  | none => exact Rep.mono h d v r
  | some i => exact r
end C

set_option maxRecDepth 100000
set_option maxHeartbeats 4000000
namespace C
open PySem L2

theorem and3 {a b : Bool} (h : (a && b) = true) : a = true ∧ b = true := Bool.and_eq_true_iff.mp h

/-! ### what may be read of a value -/
def VW (K : Fg) (G H : Hp) (d : D) (v : V) : Prop := Le G H ∧ (Rep K G d v ∨ ∃ a o, v = .ref a ∧ H a = some o ∧ ORep K G d o)
theorem Rel.vw {sc : SC} {K : Fg} {f : Fx} {L : List Addr} {G H : Hp} {σ : St} {env : Env} {bor : Option Nat} {d : D} {v : V} (R : Rel sc K f L G H σ env) (r : VRel sc K G σ env bor d v) : VW K G H d v := by
  refine ⟨R.le, ?_⟩
  cases bor with
  | none => exact .inl r
  | some i =>
    obtain ⟨h1, h2, h3⟩ := r
    obtain ⟨a, o, k1, k2, k3, _⟩ := R.own i d h1 h2
    rw [h3] at k1
    cases k1
    exact .inr ⟨a, o, rfl, k2, k3⟩
section
variable {K : Fg} {G H : Hp} {v : V}
theorem VW.int {i : Int} (h : VW K G H (.int i) v) : v = .int i := h.2.elim id fun ⟨_, _, _, _, z⟩ => z.elim
theorem VW.bl {i : Bool} (h : VW K G H (.bl i) v) : v = .bl i := h.2.elim id fun ⟨_, _, _, _, z⟩ => z.elim
theorem VW.str {i : Str} (h : VW K G H (.str i) v) : v = .str i := h.2.elim id fun ⟨_, _, _, _, z⟩ => z.elim
theorem VW.non (h : VW K G H .non v) : v = .non := h.2.elim id fun ⟨_, _, _, _, z⟩ => z.elim
theorem VW.tupX {l : List D} (h : VW K G H (.tup l) v) : ∃ a xs, v = .ref a ∧ (H a = some (.tup xs) ∨ (xs = [] ∧ SqT K H a xs)) ∧ Reps K G l xs :=
  h.2.elim (fun ⟨a, xs, e, s, q⟩ => ⟨a, xs, e, s.imp (h.1.ex _ _ (notD_tup _)) (fun z => ⟨z.1, h.1.sqT z.2⟩), q⟩) fun ⟨_, _, _, _, z⟩ => z.elim
theorem VW.tup {l : List D} (h : VW K G H (.tup l) v) : ∃ a xs, v = .ref a ∧ SqT K H a xs ∧ Reps K G l xs := by
  obtain ⟨a, xs, e, s, q⟩ := h.tupX
  exact ⟨a, xs, e, s.elim SqT.of (fun z => z.2), q⟩
theorem VW.scr {l : List Int} (h : VW K G H (.scr l) v) : ∃ a, v = .ref a ∧ SqL K H a (l.map V.int) :=
  h.2.elim (fun ⟨a, e, s⟩ => ⟨a, e, h.1.sqL s⟩) fun ⟨_, _, _, _, z⟩ => z.elim
theorem VW.lst {l : List D} (h : VW K G H (.lst l) v) : ∃ a xs, v = .ref a ∧ H a = some (.lst xs) ∧ Reps K G l xs := by
  rcases h.2 with ⟨a, xs, e, s, q⟩ | ⟨a, o, e, ho, xs, eo, q⟩
  · exact ⟨a, xs, e, h.1.ex _ _ (notD_lst _) s, q⟩
  · subst eo; exact ⟨a, xs, e, ho, q⟩
theorem VW.dK {l : List (Key × D)} (h : VW K G H (.dK l) v) : ∃ a xs, v = .ref a ∧ Rd H a (.dK xs) ∧ RepK K G l xs := by
  rcases h.2 with ⟨a, xs, e, s, q⟩ | ⟨a, o, e, ho, xs, eo, q⟩
  · exact ⟨a, xs, e, h.1.dd _ _ (.inl ⟨_, rfl⟩) s, q⟩
  · subst eo; exact ⟨a, xs, e, .inl ho, q⟩
theorem VW.dT {l : List (List Key × D)} (h : VW K G H (.dT l) v) : ∃ a xs, v = .ref a ∧ Rd H a (.dT xs) ∧ RepT K G l xs := by
  rcases h.2 with ⟨a, xs, e, s, q⟩ | ⟨a, o, e, ho, xs, eo, q⟩
  · exact ⟨a, xs, e, h.1.dd _ _ (.inr ⟨_, rfl⟩) s, q⟩
  · subst eo; exact ⟨a, xs, e, .inl ho, q⟩
theorem VW.ins {c : Str} {l : List (Str × D)} (h : VW K G H (.ins c l) v) : ∃ a dx xs, v = .ref a ∧ H a = some (.ins (ga K c) dx xs) ∧ RepF K G l xs := by
  rcases h.2 with ⟨a, dx, xs, e, s, q⟩ | ⟨a, o, e, ho, dx, xs, eo, q⟩
  · exact ⟨a, dx, xs, e, h.1.ex _ _ (notD_ins _ _ _) s, q⟩
  · subst eo; exact ⟨a, dx, xs, e, ho, q⟩
end

/-! ### names and constants -/
def chkVar (sc : SC) (i : Nat) (x : Str) : Bool := decide (sc.N[i]? = some x) && ((match sc.kd x with | some .local => true | some .cell => true | some .free => true | _ => false) && (!(x == ("__debug__" : Str)) && !(x == ("__classdict__" : Str))))
theorem chkVar_ok {sc : SC} {X : Cx} {i : Nat} {x : Str} {pos : Pos} (h : chkVar sc i x = true) (k : XOk sc X) : PE X (.Name x pos) (tVar i) := by
  obtain ⟨h1, h⟩ := and3 h
  obtain ⟨h2, h⟩ := and3 h
  obtain ⟨h3, h4⟩ := and3 h
  refine pe_var (by rw [k.N]; exact of_decide_eq_true h1) ?_ (by simpa using h3) (by simpa using h4)
  unfold Vis
  rw [k.kd x]
  cases e : sc.kd x with
  | none => rw [e] at h2; cases h2
  | some kk => rw [e] at h2; cases kk <;> first | exact .inl rfl | exact .inr (.inl rfl) | exact .inr (.inr rfl) | cases h2
def evVar (i : Nat) (env : Env) : ER := match env[i]? with | some (some d) => .ok d env | _ => .bad
theorem evVar_ok {i : Nat} {env env' : Env} {d : D} (h : evVar i env = .ok d env') : env[i]? = some (some d) ∧ env' = env := by
  unfold evVar at h
  split at h
  · rename_i d' e; cases h; exact ⟨e, rfl⟩
  · cases h
theorem evVar_post {i : Nat} {env : Env} {P : D → Env → Prop} {E : EX} (h : (evVar i env).post P E) : ∃ d, env[i]? = some (some d) ∧ P d env := by
  unfold evVar at h
  split at h
  · rename_i d e; exact ⟨d, e, h⟩
  · exact h.elim
def CE.var (i : Nat) : CE where
  chk sc e := match e with | .Name x _ => chkVar sc i x && !(sc.ow.contains i) | _ => false
  req _ := True
  bor := none
  pur := true
  ev := evVar i
  pok _ env d env' h := (evVar_ok h).2
  bok i h := by cases h
  sound sc X e W hc k _ _ := by
    cases e with
    | Name x pos =>
      obtain ⟨h1, h2⟩ := and3 hc
      refine (chkVar_ok h1 k).imp fun σ H Q h => ?_
      obtain ⟨f, L, G, env, R, h⟩ := h
      have no : i ∉ sc.ow := by simpa using h2
      obtain ⟨d, e1, h⟩ := evVar_post h
      obtain ⟨v, hv, r⟩ := R.frz i d no e1
      exact ⟨v, hv, h v H G R (Same.refl _) r⟩
    | _ => cases hc
def CE.bvar (i : Nat) : CE where
  chk sc e := match e with | .Name x _ => chkVar sc i x && sc.ow.contains i | _ => false
  req _ := True
  bor := some i
  pur := true
  ev := evVar i
  pok _ env d env' h := (evVar_ok h).2
  bok i h := rfl
  sound sc X e W hc k _ _ := by
    cases e with
    | Name x pos =>
      obtain ⟨h1, h2⟩ := and3 hc
      refine (chkVar_ok h1 k).imp fun σ H Q h => ?_
      obtain ⟨f, L, G, env, R, h⟩ := h
      have no : i ∈ sc.ow := by simpa using h2
      obtain ⟨d, e1, h⟩ := evVar_post h
      obtain ⟨a, o, hv, r⟩ := R.own i d no e1
      exact ⟨_, hv, h _ H G R (Same.refl _) ⟨no, e1, hv⟩⟩
    | _ => cases hc
/-- an expression of one value, whatever stands -/
def CE.con (d : D) (ok : Expr → Bool) (v : V) (rep : ∀ K G, Rep K G d v) (pe : ∀ X e, ok e = true → PE X e (tC v)) : CE where
  chk _ e := ok e
  req _ := True
  bor := none
  pur := true
  ev env := .ok d env
  pok _ env d env' h := by cases h; rfl
  bok i h := by cases h
  sound sc X e W hc k _ _ := (pe X e hc).imp fun σ H Q h => by
    obtain ⟨f, L, G, env, R, h⟩ := h
    exact h v H G R (Same.refl _) (rep _ _)
def CE.int (i : Int) : CE := CE.con (.int i) (fun e => match e with | .Constant (.int j) _ _ => decide (j = i) | _ => false) (.int i) (fun _ _ => rfl) (fun X e h => by
  split at h
  · rw [of_decide_eq_true h]; exact pe_int
  · cases h)
def CE.bl (i : Bool) : CE := CE.con (.bl i) (fun e => match e with | .Constant (.bool j) _ _ => decide (j = i) | _ => false) (.bl i) (fun _ _ => rfl) (fun X e h => by
  split at h
  · rw [of_decide_eq_true h]; exact pe_bl
  · cases h)
def CE.str (i : Str) : CE := CE.con (.str i) (fun e => match e with | .Constant (.str j) _ _ => decide (j = i) | _ => false) (.str i) (fun _ _ => rfl) (fun X e h => by
  split at h
  · rw [of_decide_eq_true h]; exact pe_str
  · cases h)
def CE.non : CE := CE.con .non (fun e => match e with | .Constant .none _ _ => true | _ => false) .non (fun _ _ => rfl) (fun X e h => by
  split at h
  · exact pe_non
  · cases h)

/-! ### two-place operations -/
/-- new objects, frozen at once -/
def Nw (G G' H H' : Hp) : Prop := Same H H' ∧ Same G G' ∧ (∀ a o, G' a = some o → G a = some o ∨ (H a = none ∧ H' a = some o) ∨ (isTp o ∧ H' a = some o)) ∧ (noTb G → noTb G')
theorem Nw.refl (G H : Hp) : Nw G G H H := ⟨Same.refl _, Same.refl _, fun _ _ e => .inl e, id⟩
def rB (K : Fg) (f : D → D → Option D) : R2 := fun x y H Q => ∃ G dx dy, VW K G H dx x ∧ VW K G H dy y ∧ match f dx dy with
  | some d => ∀ v H' G', Nw G G' H H' → Rep K G' d v → Q v H'
  | none => False
structure Bin (op : Operator) where
  f : D → D → Option D
  ok : ∀ X : Cx, OpR X (binaryOp op) (rB X.K f)
theorem bin_core {sc : SC} {K : Fg} {a b : CE} {f : D → D → Option D} {W : WX} (hp : a.bor = none ∨ b.pur = true) (σ : St) (H : Hp) (Q : VK)
    (h : tE sc K none (fun env => (a.ev env).bind fun x e1 => (b.ev e1).bind fun y e2 => optE (f x y) e2) W σ H Q) : tOp (rB K f) (tE sc K a.bor a.ev W) (tE sc K b.bor b.ev W) σ H Q := by
  obtain ⟨fx, L, G, env, R, h⟩ := h
  refine ⟨fx, L, G, env, R, ER.post_mono (ER.post_bind h) (fun dx e1 ea h x H1 G1 R1 s1 v1 => ?_) fun _ _ _ h => h⟩
  refine ⟨fx, L, G1, e1, R1, ER.post_mono (ER.post_bind h) (fun dy e2 eb h y H2 G2 R2 s2 v2 => ?_) (XW.mono s1)⟩
  obtain ⟨d, ef, h⟩ := optE_post h
  have v1' : VW K G2 H2 dx x := by
    cases hb : a.bor with
    | none => rw [hb] at v1; exact ⟨R2.le, .inl (Rep.mono (Le.of_same s2) _ _ v1)⟩
    | some i =>
      have pb : b.pur = true := hp.resolve_left (by rw [hb]; exact fun z => by cases z)
      have := b.pok pb _ _ _ eb
      subst this
      rw [hb] at v1
      exact R2.vw (bor := some i) v1
  refine ⟨G2, dx, dy, v1', R2.vw v2, ?_⟩
  rw [ef]
  exact fun v H3 G3 n r => h v H3 G3 (R2.grow n.1 n.2.1 n.2.2.1 (n.2.2.2 R2.tab.g)) ((s1.trans s2).trans n.2.1) r
theorem bin_pur {a b : CE} {f : D → D → Option D} (hp : (a.pur && b.pur) = true) (env : Env) (d : D) (env' : Env) (h : ((a.ev env).bind fun x e1 => (b.ev e1).bind fun y e2 => optE (f x y) e2) = .ok d env') : env' = env := by
  obtain ⟨ha, hb⟩ := and3 hp
  cases ea : a.ev env with
  | bad => rw [ea] at h; cases h
  | exc c fs e1 => rw [ea] at h; cases h
  | ok dx e1 =>
    simp only [ea, ER.bind] at h
    cases eb : b.ev e1 with
    | bad => rw [eb] at h; cases h
    | exc c fs e2 => rw [eb] at h; cases h
    | ok dy e2 =>
      simp only [eb] at h
      cases ef : f dx dy with
      | none => rw [ef] at h; cases h
      | some z => rw [ef] at h; cases h; exact (b.pok hb _ _ _ eb).trans (a.pok ha _ _ _ ea)
def opEq : Operator → Operator → Bool
  | .Add, .Add => true | .Sub, .Sub => true | .Mult, .Mult => true | .FloorDiv, .FloorDiv => true | .Mod, .Mod => true | .Pow, .Pow => true | _, _ => false
theorem opEq_ok {a b : Operator} (h : opEq a b = true) : a = b := by cases a <;> cases b <;> first | rfl | cases h
def CE.bin {op : Operator} (o : Bin op) (a b : CE) : CE where
  chk sc e := match e with | .BinOp x p y _ => opEq p op && (a.chk sc x && (b.chk sc y && (a.bor.isNone || b.pur))) | _ => false
  req r := a.req r ∧ b.req r
  bor := none
  pur := a.pur && b.pur
  ev env := (a.ev env).bind fun x e1 => (b.ev e1).bind fun y e2 => optE (o.f x y) e2
  pok := bin_pur
  bok i h := by cases h
  sound sc X e W hc k q tk := by
    cases e with
    | BinOp x p y pos =>
      obtain ⟨h1, h⟩ := and3 hc
      obtain ⟨h2, h⟩ := and3 h
      obtain ⟨h3, h4⟩ := and3 h
      rw [opEq_ok h1]
      refine (pe_op (o.ok X) (a.sound sc X x W h2 k q.1 tk) (b.sound sc X y W h3 k q.2 tk)).imp (bin_core ?_)
      simpa using h4
    | _ => cases hc
end C

set_option maxRecDepth 100000
set_option maxHeartbeats 4000000
namespace C
open PySem L2

/-! ### arithmetic and + -/
def allFlat (l : List V) : Bool := l.all flatV
theorem rB_int {K : Fg} {f : D → D → Option D} {x y : V} {H : Hp} {Q : VK} (hf : ∀ dx dy d, f dx dy = some d → (∃ i, dx = .int i) ∧ ∃ j, dy = .int j) (h : rB K f x y H Q) :
    ∃ i j, x = .int i ∧ y = .int j ∧ ∃ d, f (.int i) (.int j) = some d ∧ ∀ v, (∀ K G, Rep K G d v) → Q v H := by
  obtain ⟨G, dx, dy, v1, v2, h⟩ := h
  cases e : f dx dy with
  | none => rw [e] at h; exact h.elim
  | some d =>
    rw [e] at h
    obtain ⟨⟨i, rfl⟩, j, rfl⟩ := hf dx dy d e
    exact ⟨i, j, v1.int, v2.int, d, e, fun v r => h v H G (Nw.refl _ _) (r _ _)⟩
def fInt (C : Int → Int → Bool) (g : Int → Int → Int) : D → D → Option D
  | .int i, .int j => if C i j then some (.int (g i j)) else none
  | _, _ => none
theorem fInt_ok {X : Cx} {op : Operator} {C : Int → Int → Bool} {g : Int → Int → Int} {P : Int → Int → Prop} (hP : ∀ i j, C i j = true → P i j) (h : OpR X (binaryOp op) (rI P fun i j => .int (g i j))) : OpR X (binaryOp op) (rB X.K (fInt C g)) := by
  intro pins s σ H x y v u Q I rx ry q
  obtain ⟨i, j, ex, ey, d, ef, k⟩ := rB_int (fun dx dy d e => by
    unfold fInt at e
    split at e
    · exact ⟨⟨_, rfl⟩, _, rfl⟩
    · cases e) q
  unfold fInt at ef
  by_cases hc : C i j = true
  · simp only [hc, if_true] at ef
    cases ef
    exact h pins s σ H x y v u Q I rx ry ⟨i, j, ex, ey, hP i j hc, k _ fun _ _ => rfl⟩
  · simp only [hc] at ef
    cases ef
def oSub : Bin .Sub := ⟨fInt (fun _ _ => true) fun i j => i - j, fun X => fInt_ok (P := fun _ _ => True) (fun _ _ _ => trivial) fun pins s σ H x y v u Q I rx ry ⟨i, j, h1, h2, _, q⟩ => op_sub pins s σ H x y v u Q I rx ry ⟨i, j, h1, h2, q⟩⟩
def mulB (i j : Int) : Bool := decide (-(2 ^ 64) < i) && decide (i < 2 ^ 64) || decide (-(2 ^ 64) < j) && decide (j < 2 ^ 64) || decide (i.natAbs.log2 + j.natAbs.log2 < 1000000)
theorem op_mulB {X : Cx} : OpR X (binaryOp .Mult) (rI (fun i j => mulB i j = true) fun i j => .int (i * j)) := by
  intro pins s σ H x y v u Q I rx ry ⟨i, j, h1, h2, hc, q⟩
  unfold mulB at hc
  rcases Bool.or_eq_true_iff.mp hc with h | h
  · refine op_mul pins s σ H x y v u Q I rx ry ⟨i, j, h1, h2, ?_, q⟩
    rcases Bool.or_eq_true_iff.mp h with h | h
    · exact .inl ⟨of_decide_eq_true (and3 h).1, of_decide_eq_true (and3 h).2⟩
    · exact .inr ⟨of_decide_eq_true (and3 h).1, of_decide_eq_true (and3 h).2⟩
  · have h3 : CMulW i j := by unfold CMulW; exact of_decide_eq_true h
    exact op_mulW pins s σ H x y v u Q I rx ry ⟨i, j, h1, h2, h3, q⟩
def oMul : Bin .Mult := ⟨fInt mulB fun i j => i * j, fun X => fInt_ok (fun _ _ h => h) op_mulB⟩
def divB (j : Int) : Bool := decide (0 < j) && decide (j.natAbs.log2 < 9000)
def oDiv : Bin .FloorDiv := ⟨fInt (fun _ j => divB j) fun i j => i / j, fun X => fInt_ok (P := CDivW) (fun _ _ h => ⟨of_decide_eq_true (and3 h).1, of_decide_eq_true (and3 h).2⟩) op_fdivW⟩
def oMod : Bin .Mod := ⟨fInt (fun _ j => decide (0 < j)) fun i j => i % j, fun X => fInt_ok (P := fun _ j => 0 < j) (fun _ _ h => of_decide_eq_true h) op_mod⟩
def powB (i j : Int) : Bool := decide (0 ≤ j) && (decide (j ≤ 1000000) && decide (i.natAbs < 2 ^ 64))
def oPow : Bin .Pow := ⟨fInt powB fun i j => i ^ j.toNat, fun X => fInt_ok (P := CPow) (fun _ _ h => ⟨of_decide_eq_true (and3 h).1, of_decide_eq_true (and3 (and3 h).2).1, of_decide_eq_true (and3 (and3 h).2).2⟩) op_pow⟩
theorem Reps.append {K : Fg} {G : Hp} : ∀ {l m : List D} {xs ys : List V}, Reps K G l xs → Reps K G m ys → Reps K G (l ++ m) (xs ++ ys)
  | [], m, xs, ys, h, k => by cases h; exact k
  | d :: l, m, xs, ys, h, k => by
    obtain ⟨x, r, rfl, h1, h2⟩ := h
    exact ⟨x, r ++ ys, rfl, h1, Reps.append h2 k⟩
theorem Reps.length {K : Fg} {G : Hp} : ∀ {l : List D} {xs : List V}, Reps K G l xs → l.length = xs.length
  | [], xs, h => by cases h; rfl
  | d :: l, xs, h => by
    obtain ⟨x, r, rfl, h1, h2⟩ := h
    simp [Reps.length h2]
/-- a new object, frozen -/
theorem Nw.alloc {K : Fg} {G H : Hp} {p : Addr} {o : HO} (hg : Le G H) (hp : H p = none) (ho : ∀ ps, o ≠ .tbl ps := by intro _ z; cases z) : Nw G (upd G p o) H (upd H p o) := by
  have gp : G p = none := by
    cases e : G p with
    | none => rfl
    | some u =>
      exfalso
      by_cases n : notD u
      · rw [hg.ex p u n e] at hp; cases hp
      · by_cases m : isD u
        · rcases hg.dd p u m (.inl e) with z | ⟨_, z⟩ <;> rw [z] at hp <;> cases hp
        · have : ∃ ob w, u = .frz ob w ∧ isD w := Classical.byContradiction fun hh => n ⟨m, fun ob w e1 e2 => hh ⟨ob, w, e1, e2⟩⟩
          obtain ⟨ob, w, rfl, hw⟩ := this
          rcases hg.dd p w hw (.inr ⟨ob, e⟩) with z | ⟨_, z⟩ <;> rw [z] at hp <;> cases hp
  refine ⟨same_upd hp, same_upd gp, fun a u e => ?_, fun n => n.upd ho⟩
  by_cases h : a = p
  · subst h; rw [upd_same] at e; cases e; exact .inr (.inl ⟨hp, upd_same⟩)
  · rw [upd_ne h] at e; exact .inl e
def fAdd : D → D → Option D
  | .int i, .int j => some (.int (i + j))
  | .str i, .str j => if i.length + j.length ≤ sizeLine then some (.str (i ++ j)) else none
  | .lst i, .lst j => if i.length + j.length ≤ sizeLine then some (.lst (i ++ j)) else none
  | .tup i, .tup j => if i.length + j.length ≤ sizeLine then some (.tup (i ++ j)) else none
  | _, _ => none
theorem op_addD {X : Cx} : OpR X (binaryOp .Add) (rB X.K fAdd) := by
  intro pins s σ H x y v u Q I rx ry q
  obtain ⟨G, dx, dy, v1, v2, h⟩ := q
  have go : ∀ d, fAdd dx dy = some d → ∀ v H' G', Nw G G' H H' → Rep X.K G' d v → Q v H' := fun d e => by rw [e] at h; exact h
  cases e : fAdd dx dy with
  | none => rw [e] at h; exact h.elim
  | some d =>
    have g := go d e
    unfold fAdd at e
    split at e
    · cases e
      exact op_add pins s σ H x y v u Q I rx ry ⟨_, _, v1.int, v2.int, g _ H G (Nw.refl _ _) rfl⟩
    · split at e
      · rename_i hl
        cases e
        exact op_add_str pins s σ H x y v u Q I rx ry ⟨_, _, v1.str, v2.str, hl, g _ H G (Nw.refl _ _) rfl⟩
      · cases e
    · split at e
      · rename_i hl
        cases e
        obtain ⟨a, xs, rfl, ha, ra⟩ := v1.lst
        obtain ⟨b, ys, rfl, hb, rb⟩ := v2.lst
        refine op_cat pins s σ H _ _ v u Q I rx ry ⟨a, b, xs, ys, rfl, rfl, ha, hb, by rw [← ra.length, ← rb.length]; exact hl, fun p hp => ?_⟩
        have n := Nw.alloc (K := X.K) (o := .lst (xs ++ ys)) v1.1 hp
        refine g _ _ _ n ⟨p, xs ++ ys, rfl, upd_same, ?_⟩
        exact Reps.mono (Le.of_same n.2.1) _ _ (ra.append rb)
      · cases e
    · split at e
      · rename_i i j hl
        obtain ⟨a, xs, e1, ha, ra⟩ := v1.tup
        obtain ⟨b, ys, e2, hb, rb⟩ := v2.tup
        cases e
        refine op_catA pins s σ H _ _ v u Q I rx ry ⟨a, b, xs, ys, e1, e2, ha, hb, by rw [← ra.length, ← rb.length]; exact hl, fun ex => ?_, fun _ ey => ?_, fun _ _ p hp => ?_⟩
        · have ei : i = [] := List.eq_nil_of_length_eq_zero (by rw [ra.length, ex]; rfl)
          subst ei
          rw [← e2]
          exact g _ _ _ (Nw.refl _ _) (v2.2.elim id fun ⟨_, _, _, _, z⟩ => z.elim)
        · have ej : j = [] := List.eq_nil_of_length_eq_zero (by rw [rb.length, ey]; rfl)
          subst ej
          rw [List.append_nil] at g
          rw [← e1]
          exact g _ _ _ (Nw.refl _ _) (v1.2.elim id fun ⟨_, _, _, _, z⟩ => z.elim)
        · have n := Nw.alloc (K := X.K) (o := .tup (xs ++ ys)) v1.1 hp
          refine g _ _ _ n ⟨p, xs ++ ys, rfl, .inl upd_same, ?_⟩
          exact Reps.mono (Le.of_same n.2.1) _ _ (ra.append rb)
      · cases e
    · cases e
def oAdd : Bin .Add := ⟨fAdd, fun _ => op_addD⟩

/-! ### comparisons -/
def rBb (K : Fg) (f : D → D → Option Bool) : R2 := fun x y H Q => ∃ G dx dy, VW K G H dx x ∧ VW K G H dy y ∧ match f dx dy with
  | some b => Q (.bl b) H
  | none => False
structure Cmp (op : CmpOp) where
  f : D → D → Option Bool
  ok : ∀ X : Cx, X.A.units + 100 < cLine → OpR X (compareOp op) (rBb X.K f)
theorem rBb_some {K : Fg} {f : D → D → Option Bool} {x y : V} {H : Hp} {Q : VK} (h : rBb K f x y H Q) : ∃ G dx dy b, VW K G H dx x ∧ VW K G H dy y ∧ f dx dy = some b ∧ Q (.bl b) H := by
  obtain ⟨G, dx, dy, v1, v2, h⟩ := h
  cases e : f dx dy with
  | none => rw [e] at h; exact h.elim
  | some b => rw [e] at h; exact ⟨G, dx, dy, b, v1, v2, e, h⟩
def fCI (g : Int → Int → Bool) : D → D → Option Bool
  | .int i, .int j => some (g i j)
  | _, _ => none
theorem fCI_ok {X : Cx} {op : CmpOp} {g : Int → Int → Bool} (h : OpR X (compareOp op) (rI0 fun i j => .bl (g i j))) : OpR X (compareOp op) (rBb X.K (fCI g)) := by
  intro pins s σ H x y v u Q I rx ry q
  obtain ⟨G, dx, dy, b, v1, v2, e, q⟩ := rBb_some q
  unfold fCI at e
  split at e
  · cases e; exact h pins s σ H x y v u Q I rx ry ⟨_, _, v1.int, v2.int, q⟩
  · cases e
def cLt : Cmp .Lt := ⟨fCI fun i j => decide (i < j), fun X _ => fCI_ok op_lt⟩
def cLe : Cmp .LtE := ⟨fCI fun i j => decide (i ≤ j), fun X _ => fCI_ok op_le⟩
def cGt : Cmp .Gt := ⟨fCI fun i j => decide (j < i), fun X _ => fCI_ok op_gt⟩
def cGe : Cmp .GtE := ⟨fCI fun i j => decide (j ≤ i), fun X _ => fCI_ok op_ge⟩
mutual
/-- data without dicts and objects -/
def datOf : D → Option PyData
  | .non => some .none
  | .bl b => some (.bool b)
  | .int i => some (.int i)
  | .str x => some (.str x)
  | .tup l => (datsOf l).map .tuple
  | .lst l => (datsOf l).map .list
  | _ => none
def datsOf : List D → Option (List PyData)
  | [] => some []
  | d :: l => match datOf d, datsOf l with
    | some x, some r => some (x :: r)
    | _, _ => none
end
mutual
theorem Rep.dp {K : Fg} {G H : Hp} (le : Le G H) : ∀ (d : D) (v : V) (x : PyData), Rep K G d v → datOf d = some x → Dp K H v x
  | .non, v, x, r, e => by cases e; cases r; exact .non
  | .bl b, v, x, r, e => by cases e; cases r; exact .bl b
  | .int b, v, x, r, e => by cases e; cases r; exact .int b
  | .str b, v, x, r, e => by cases e; cases r; exact .str b
  | .tup l, v, x, r, e => by
    obtain ⟨a, xs, rfl, s, q⟩ := r
    unfold datOf at e
    obtain ⟨ds, e1, rfl⟩ := Option.map_eq_some_iff.mp e
    exact .tup (s.elim (fun z => SqT.of (le.ex _ _ (notD_tup _) z)) fun z => le.sqT z.2) (Reps.dp le l xs ds q e1)
  | .lst l, v, x, r, e => by
    obtain ⟨a, xs, rfl, s, q⟩ := r
    unfold datOf at e
    obtain ⟨ds, e1, rfl⟩ := Option.map_eq_some_iff.mp e
    exact .lst (SqL.of (le.ex _ _ (notD_lst _) s)) (Reps.dp le l xs ds q e1)
  | .dK _, _, _, _, e => by unfold datOf at e; cases e
  | .dT _, _, _, _, e => by unfold datOf at e; cases e
  | .ins _ _, _, _, _, e => by unfold datOf at e; cases e
  | .ty _, _, _, _, e => by unfold datOf at e; cases e
  | .gl _, _, _, _, e => by unfold datOf at e; cases e
  | .scr _, _, _, _, e => by unfold datOf at e; cases e
theorem Reps.dp {K : Fg} {G H : Hp} (le : Le G H) : ∀ (l : List D) (xs : List V) (ds : List PyData), Reps K G l xs → datsOf l = some ds → DpAll K H xs ds
  | [], xs, ds, r, e => by cases r; unfold datsOf at e; cases e; exact .nil
  | d :: l, xs, ds, r, e => by
    obtain ⟨x, t, rfl, h1, h2⟩ := r
    unfold datsOf at e
    split at e
    · rename_i y ys e1 e2
      cases e
      exact .cons (Rep.dp le d x y h1 e1) (Reps.dp le l t ys h2 e2)
    · cases e
end
theorem VW.dp {K : Fg} {G H : Hp} {d : D} {v : V} {x : PyData} (h : VW K G H d v) (e : datOf d = some x) : Dp K H v x := by
  rcases h.2 with r | ⟨a, o, rfl, ho, r⟩
  · exact Rep.dp h.1 d v x r e
  · cases d with
    | lst l =>
      obtain ⟨xs, rfl, q⟩ := r
      unfold datOf at e
      obtain ⟨ds, e1, rfl⟩ := Option.map_eq_some_iff.mp e
      exact .lst (SqL.of ho) (Reps.dp h.1 l xs ds q e1)
    | dK l => unfold datOf at e; cases e
    | dT l => unfold datOf at e; cases e
    | ins c l => unfold datOf at e; cases e
    | _ => exact r.elim
/-- == of plain data -/
def eqF (x y : D) : Option Bool := match x, y with
  | .int i, .int j => some (decide (i = j))
  | .str i, .str j => some (decide (i = j))
  | .bl i, .bl j => some (decide (i = j))
  | .non, .non => some true
  | x, y => match datOf x, datOf y with
    | some a, some b => if SeqAt.shaped a && SeqAt.shaped b then some (PyData.eqv a b) else none
    | _, _ => none
theorem eqF_cases {x y : D} {b : Bool} (h : eqF x y = some b) : (∃ i j, x = .int i ∧ y = .int j ∧ b = decide (i = j)) ∨ (∃ i j, x = .str i ∧ y = .str j ∧ b = decide (i = j)) ∨ (∃ i j, x = .bl i ∧ y = .bl j ∧ b = decide (i = j)) ∨
    (x = .non ∧ y = .non ∧ b = true) ∨ ∃ p q, datOf x = some p ∧ datOf y = some q ∧ SeqAt.shaped p = true ∧ SeqAt.shaped q = true ∧ b = PyData.eqv p q := by
  unfold eqF at h
  split at h
  · cases h; exact .inl ⟨_, _, rfl, rfl, rfl⟩
  · cases h; exact .inr (.inl ⟨_, _, rfl, rfl, rfl⟩)
  · cases h; exact .inr (.inr (.inl ⟨_, _, rfl, rfl, rfl⟩))
  · cases h; exact .inr (.inr (.inr (.inl ⟨rfl, rfl, rfl⟩)))
  · split at h
    · rename_i p q e1 e2
      split at h
      · rename_i hs
        cases h
        exact .inr (.inr (.inr (.inr ⟨p, q, e1, e2, (and3 hs).1, (and3 hs).2, rfl⟩)))
      · cases h
    · cases h
theorem dec_inj {α β : Type} [DecidableEq α] [DecidableEq β] {f : α → β} (inj : ∀ a b, f a = f b → a = b) (a b : α) : decide (f a = f b) = decide (a = b) := by
  by_cases h : a = b
  · subst h; simp
  · rw [decide_eq_false h, decide_eq_false fun z => h (inj _ _ z)]
theorem op_eqF {X : Cx} (hu : X.A.units + 100 < cLine) : OpR X (compareOp .Eq) (rBb X.K eqF) := by
  intro pins s σ H x y v u Q I rx ry q
  obtain ⟨G, dx, dy, b, v1, v2, e, q⟩ := rBb_some q
  rcases eqF_cases e with ⟨i, j, rfl, rfl, rfl⟩ | ⟨i, j, rfl, rfl, rfl⟩ | ⟨i, j, rfl, rfl, rfl⟩ | ⟨rfl, rfl, rfl⟩ | ⟨p, r, e1, e2, s1, s2, rfl⟩
  · refine op_eq pins s σ H x y v u Q I rx ry ?_
    rw [v1.int, v2.int]
    exact ⟨rfl, by rw [dec_inj (f := V.int) fun a b h => V.int.inj h]; exact q⟩
  · refine op_eq pins s σ H x y v u Q I rx ry ?_
    rw [v1.str, v2.str]
    exact ⟨rfl, by rw [dec_inj (f := V.str) fun a b h => V.str.inj h]; exact q⟩
  · refine op_eq pins s σ H x y v u Q I rx ry ?_
    rw [v1.bl, v2.bl]
    exact ⟨rfl, by rw [dec_inj (f := V.bl) fun a b h => V.bl.inj h]; exact q⟩
  · refine op_eq pins s σ H x y v u Q I rx ry ?_
    rw [v1.non, v2.non]
    exact ⟨rfl, q⟩
  · exact op_eqD (by omega) pins s σ H x y v u Q I rx ry ⟨p, r, v1.dp e1, v2.dp e2, s1, s2, q⟩
theorem op_neF {X : Cx} (hu : X.A.units + 100 < cLine) : OpR X (compareOp .NotEq) (rBb X.K fun x y => (eqF x y).map (!·)) := by
  intro pins s σ H x y v u Q I rx ry q
  obtain ⟨G, dx, dy, b, v1, v2, e, q⟩ := rBb_some q
  obtain ⟨b', e', rfl⟩ := Option.map_eq_some_iff.mp e
  rcases eqF_cases e' with ⟨i, j, rfl, rfl, rfl⟩ | ⟨i, j, rfl, rfl, rfl⟩ | ⟨i, j, rfl, rfl, rfl⟩ | ⟨rfl, rfl, rfl⟩ | ⟨p, r, e1, e2, s1, s2, rfl⟩
  · refine op_ne pins s σ H x y v u Q I rx ry ?_
    rw [v1.int, v2.int]
    exact ⟨rfl, by rw [dec_inj (f := V.int) fun a b h => V.int.inj h]; exact q⟩
  · refine op_ne pins s σ H x y v u Q I rx ry ?_
    rw [v1.str, v2.str]
    exact ⟨rfl, by rw [dec_inj (f := V.str) fun a b h => V.str.inj h]; exact q⟩
  · refine op_ne pins s σ H x y v u Q I rx ry ?_
    rw [v1.bl, v2.bl]
    exact ⟨rfl, by rw [dec_inj (f := V.bl) fun a b h => V.bl.inj h]; exact q⟩
  · refine op_ne pins s σ H x y v u Q I rx ry ?_
    rw [v1.non, v2.non]
    exact ⟨rfl, q⟩
  · exact op_neD (by omega) pins s σ H x y v u Q I rx ry ⟨p, r, v1.dp e1, v2.dp e2, s1, s2, q⟩
def cEq : Cmp .Eq := ⟨eqF, fun X h => op_eqF h⟩
def cNe : Cmp .NotEq := ⟨fun x y => (eqF x y).map (!·), fun X h => op_neF h⟩
def D.isN : D → Bool
  | .non => true
  | _ => false
theorem VW.isN {K : Fg} {G H : Hp} {d : D} {x : V} (h : VW K G H d x) : d.isN = decide (x = .non) := by
  rcases h.2 with r | ⟨a, o, rfl, ho, r⟩
  · cases d <;> first | (obtain ⟨_, _, _, rfl, _⟩ := r; rfl) | (obtain ⟨_, _, rfl, _⟩ := r; rfl) | (obtain ⟨_, rfl, _⟩ := r; rfl) | (cases r; rfl)
  · cases d <;> first | rfl | exact r.elim
def isNF (neg : Bool) (x y : D) : Option Bool := if y.isN = true then some (if neg then !x.isN else x.isN) else none
def cIsN : Cmp .Is := ⟨isNF false, fun X _ pins s σ H x y v u Q I rx ry q => by
  obtain ⟨G, dx, dy, b, v1, v2, e, q⟩ := rBb_some q
  unfold isNF at e
  split at e
  · rename_i hy
    cases e
    rw [v2.isN] at hy
    rw [v1.isN] at q
    exact op_isN pins s σ H x y v u Q I rx ry ⟨of_decide_eq_true hy, q⟩
  · cases e⟩
def cNotN : Cmp .IsNot := ⟨isNF true, fun X _ pins s σ H x y v u Q I rx ry q => by
  obtain ⟨G, dx, dy, b, v1, v2, e, q⟩ := rBb_some q
  unfold isNF at e
  split at e
  · rename_i hy
    cases e
    rw [v2.isN] at hy
    rw [v1.isN] at q
    exact op_notN pins s σ H x y v u Q I rx ry ⟨of_decide_eq_true hy, q⟩
  · cases e⟩
/-! ### in -/
def flatD : D → Option V
  | .non => some .non
  | .bl b => some (.bl b)
  | .int i => some (.int i)
  | .str x => some (.str x)
  | _ => none
def flatsD : List D → Option (List V)
  | [] => some []
  | d :: l => match flatD d, flatsD l with
    | some x, some r => some (x :: r)
    | _, _ => none
theorem flatD_rep {K : Fg} {G : Hp} {d : D} {x v : V} (h : flatD d = some v) (r : Rep K G d x) : x = v ∧ flatV v = true := by
  cases d <;> first | (cases h; cases r; exact ⟨rfl, rfl⟩) | (cases h)
theorem flatsD_rep {K : Fg} {G : Hp} : ∀ {l : List D} {xs vs : List V}, flatsD l = some vs → Reps K G l xs → xs = vs ∧ vs.all flatV = true
  | [], xs, vs, h, r => by cases h; cases r; exact ⟨rfl, rfl⟩
  | d :: l, xs, vs, h, r => by
    obtain ⟨x, t, rfl, r1, r2⟩ := r
    unfold flatsD at h
    split at h
    · rename_i v w e1 e2
      cases h
      obtain ⟨rfl, f1⟩ := flatD_rep e1 r1
      obtain ⟨rfl, f2⟩ := flatsD_rep e2 r2
      exact ⟨rfl, by rw [List.all_cons, f1, f2]; rfl⟩
    · cases h
theorem VW.flat {K : Fg} {G H : Hp} {d : D} {x v : V} (h : VW K G H d x) (e : flatD d = some v) : x = v ∧ flatV v = true := by
  rcases h.2 with r | ⟨a, o, rfl, ho, r⟩
  · exact flatD_rep e r
  · cases d <;> first | exact r.elim | cases e
/-- a key of a dict -/
def keyD : D → Option Key
  | .int i => some (.inl i)
  | .str x => some (.inr x)
  | _ => none
def keysD : List D → Option (List Key)
  | [] => some []
  | d :: l => match keyD d, keysD l with
    | some x, some r => some (x :: r)
    | _, _ => none
def tkeyD : D → Option (List Key)
  | .tup (d :: l) => keysD (d :: l)
  | _ => none
def valD {κ : Type} [DecidableEq κ] (l : List (κ × D)) (k : κ) : Option D := (l.find? fun p => decide (p.1 = k)).map (·.2)
def inStr (i j : Str) : Bool := match i.cps.toList with
  | [c] => decide (c ∈ j.cps.toList)
  | _ => !(Builtin.Str.occurrences j i 0 j.length 1).isEmpty
def inF (x y : D) : Option Bool := match y with
  | .str j => match x with
    | .str i => some (inStr i j)
    | _ => none
  | .tup l => match flatD x, flatsD l with
    | some v, some vs => some (inV v vs)
    | _, _ => none
  | .lst l => match flatD x, flatsD l with
    | some v, some vs => some (inV v vs)
    | _, _ => none
  | .dK l => (keyD x).map fun k => (valD l k).isSome
  | .dT l => (tkeyD x).map fun k => (valD l k).isSome
  | _ => none
theorem keyD_rep {K : Fg} {G : Hp} {d : D} {x : V} {k : Key} (h : keyD d = some k) (r : Rep K G d x) : x = kV k := by
  cases d <;> first | (cases h; cases r; rfl) | (cases h)
theorem keysD_rep {K : Fg} {G : Hp} : ∀ {l : List D} {xs : List V} {ks : List Key}, keysD l = some ks → Reps K G l xs → xs = ks.map kV
  | [], xs, vs, h, r => by cases h; cases r; rfl
  | d :: l, xs, vs, h, r => by
    obtain ⟨x, t, rfl, r1, r2⟩ := r
    unfold keysD at h
    split at h
    · rename_i v w e1 e2
      cases h
      rw [keyD_rep e1 r1, keysD_rep e2 r2]
      rfl
    · cases h
theorem VW.key {K : Fg} {G H : Hp} {d : D} {x : V} {k : Key} (h : VW K G H d x) (e : keyD d = some k) : x = kV k := by
  rcases h.2 with r | ⟨a, o, rfl, ho, r⟩
  · exact keyD_rep e r
  · cases d <;> first | exact r.elim | cases e
theorem VW.tkey {K : Fg} {G H : Hp} {d : D} {x : V} {k : List Key} (h : VW K G H d x) (e : tkeyD d = some k) : ∃ b, x = .ref b ∧ H b = some (.tup (k.map kV)) := by
  cases d <;> try (cases e)
  rename_i l
  cases l with
  | nil => cases e
  | cons d l =>
    obtain ⟨a, xs, rfl, s, q⟩ := h.tupX
    have := keysD_rep e q
    subst this
    refine ⟨a, rfl, s.elim id fun z => ?_⟩
    have := q.length
    rw [z.1] at this
    cases this
theorem RepK.val {K : Fg} {G : Hp} (k : Key) : ∀ {l : List (Key × D)} {xs : List (Key × V)}, RepK K G l xs → (valD l k = none ∧ valV xs k = none) ∨ ∃ d v, valD l k = some d ∧ valV xs k = some v ∧ Rep K G d v
  | [], xs, h => by cases h; exact .inl ⟨rfl, rfl⟩
  | (k', d) :: l, xs, h => by
    obtain ⟨x, r, rfl, h1, h2⟩ := h
    by_cases e : k' = k
    · exact .inr ⟨d, x, by simp [valD, List.find?_cons, e], valV_pos (p := (k', x)) e, h1⟩
    · have e1 : valD ((k', d) :: l) k = valD l k := by simp [valD, List.find?_cons, e]
      rw [e1, valV_neg (p := (k', x)) e]
      exact RepK.val k h2
theorem RepT.val {K : Fg} {G : Hp} (k : List Key) : ∀ {l : List (List Key × D)} {xs : List (List Key × V)}, RepT K G l xs → (valD l k = none ∧ valV xs k = none) ∨ ∃ d v, valD l k = some d ∧ valV xs k = some v ∧ Rep K G d v
  | [], xs, h => by cases h; exact .inl ⟨rfl, rfl⟩
  | (k', d) :: l, xs, h => by
    obtain ⟨x, r, rfl, h1, h2⟩ := h
    by_cases e : k' = k
    · exact .inr ⟨d, x, by simp [valD, List.find?_cons, e], valV_pos (p := (k', x)) e, h1⟩
    · have e1 : valD ((k', d) :: l) k = valD l k := by simp [valD, List.find?_cons, e]
      rw [e1, valV_neg (p := (k', x)) e]
      exact RepT.val k h2
theorem valD_some {κ : Type} [DecidableEq κ] {K : Fg} {G : Hp} {l : List (κ × D)} {xs : List (κ × V)} {k : κ} (h : (valD l k = none ∧ valV xs k = none) ∨ ∃ d v, valD l k = some d ∧ valV xs k = some v ∧ Rep K G d v) : (valD l k).isSome = (valV xs k).isSome := by
  rcases h with ⟨h1, h2⟩ | ⟨d, v, h1, h2, _⟩ <;> rw [h1, h2] <;> rfl
/-- what a dict tells of a key -/
def getD? (x y : D) : Option (Option D) := match x with
  | .dK l => (keyD y).map fun k => valD l k
  | .dT l => (tkeyD y).map fun k => valD l k
  | _ => none
theorem getD_ok {K : Fg} {G H : Hp} {dx dy : D} {x y : V} {o : Option D} (h1 : VW K G H dx x) (h2 : VW K G H dy y) (e : getD? dx dy = some o) : ∃ a r, x = .ref a ∧ DGet H a y r ∧ ((o = none ∧ r = none) ∨ ∃ d v, o = some d ∧ r = some v ∧ Rep K G d v) := by
  unfold getD? at e
  split at e
  · obtain ⟨k, e1, rfl⟩ := Option.map_eq_some_iff.mp e
    obtain ⟨a, xs, rfl, hr, q⟩ := h1.dK
    exact ⟨a, _, rfl, .inl ⟨xs, k, hr, h2.key e1, rfl⟩, RepK.val k q⟩
  · obtain ⟨k, e1, rfl⟩ := Option.map_eq_some_iff.mp e
    obtain ⟨a, xs, rfl, hr, q⟩ := h1.dT
    obtain ⟨b, rfl, hb⟩ := h2.tkey e1
    exact ⟨a, _, rfl, .inr ⟨xs, k, b, hr, rfl, hb, rfl⟩, RepT.val k q⟩
  · cases e
theorem inStr_two (i j : Str) : (∃ c, i = ⟨#[c]⟩ ∧ inStr i j = decide (c ∈ j.cps.toList)) ∨ inStr i j = !(Builtin.Str.occurrences j i 0 j.length 1).isEmpty := by
  unfold inStr
  split
  · rename_i ec
    refine .inl ⟨_, ?_, rfl⟩
    cases i with
    | mk cps =>
      have := Array.toList_inj.mp (show cps.toList = (#[_] : Array Nat).toList from ec)
      rw [this]
  · exact .inr rfl
theorem inStr_in {X : Cx} (neg : Bool) (op : CmpOp) (h : op = if neg then .NotIn else .In) : OpR X (compareOp op) (fun x y H Q => ∃ i j, x = .str i ∧ y = .str j ∧ Q (.bl (if neg then !inStr i j else inStr i j)) H) := by
  intro pins s σ H x y v u Q I rx ry ⟨i, j, ex, ey, q⟩
  subst h
  rcases inStr_two i j with ⟨c, ei, e⟩ | e
  · rw [e] at q
    cases neg with
    | false => exact op_in_sign pins s σ H x y v u Q I rx ry ⟨c, j, by rw [ex, ei], ey, q⟩
    | true => exact op_notIn_sign pins s σ H x y v u Q I rx ry ⟨c, j, by rw [ex, ei], ey, q⟩
  · rw [e] at q
    cases neg with
    | false => exact op_in_str pins s σ H x y v u Q I rx ry ⟨i, j, ex, ey, q⟩
    | true => exact op_notin_str pins s σ H x y v u Q I rx ry ⟨i, j, ex, ey, q⟩
theorem inF_in {X : Cx} (hu : X.A.units + 100 < cLine) (neg : Bool) (op : CmpOp) (h : op = if neg then .NotIn else .In) : OpR X (compareOp op) (rBb X.K fun x y => (inF x y).map fun b => if neg then !b else b) := by
  intro pins s σ H x y v u Q I rx ry q0
  obtain ⟨G, dx, dy, b, v1, v2, e, q⟩ := rBb_some q0
  clear q0
  obtain ⟨b', e', rfl⟩ := Option.map_eq_some_iff.mp e
  have seq : ∀ p xs w ws, y = .ref p → (SqL X.K H p xs ∨ SqT X.K H p xs) → flatD dx = some w → xs = ws → ws.all flatV = true → b' = inV w ws → wpAny (model X.prog X.w) X.A (compareOp op v u) (EP X pins σ Q) X.xe s := by
    intro p xs w ws e1 e2 e3 e4 e5 e6
    obtain ⟨ex, fx⟩ := v1.flat e3
    subst h
    cases neg with
    | false => exact op_in_seq pins s σ H x y v u Q I rx ry ⟨p, xs, e1, e2, by rw [ex]; exact fx, by rw [e4]; exact e5, by rw [ex, e4, ← e6]; exact q⟩
    | true => exact op_notIn_seq pins s σ H x y v u Q I rx ry ⟨p, xs, e1, e2, by rw [ex]; exact fx, by rw [e4]; exact e5, by rw [ex, e4, ← e6]; exact q⟩
  have dict : ∀ o, getD? dy dx = some o → b' = o.isSome → wpAny (model X.prog X.w) X.A (compareOp op v u) (EP X pins σ Q) X.xe s := by
    intro o eo eb
    obtain ⟨a, r, rfl, g, hr⟩ := getD_ok v2 v1 eo
    have er : o.isSome = r.isSome := by rcases hr with ⟨h1, h2⟩ | ⟨d, w, h1, h2, _⟩ <;> rw [h1, h2] <;> rfl
    cases ry
    subst h
    cases neg with
    | false => exact d_in (by omega) I g rx fun s' I' => ⟨.bl _, H, I', rfl, by rw [← er, ← eb]; exact q⟩
    | true => exact d_notIn (by omega) I g rx fun s' I' => ⟨.bl _, H, I', rfl, by rw [← er, ← eb]; exact q⟩
  unfold inF at e'
  split at e'
  · split at e'
    · cases e'
      exact inStr_in neg op h pins s σ H x y v u Q I rx ry ⟨_, _, v1.str, v2.str, q⟩
    · cases e'
  · split at e'
    · rename_i w ws e1 e2
      cases e'
      obtain ⟨p, xs, ey, sq, rr⟩ := v2.tup
      obtain ⟨e3, e4⟩ := flatsD_rep e2 rr
      exact seq p xs w ws ey (.inr sq) e1 e3 e4 rfl
    · cases e'
  · split at e'
    · rename_i w ws e1 e2
      cases e'
      obtain ⟨p, xs, ey, sq, rr⟩ := v2.lst
      obtain ⟨e3, e4⟩ := flatsD_rep e2 rr
      exact seq p xs w ws ey (.inl (SqL.of sq)) e1 e3 e4 rfl
    · cases e'
  · rename_i l
    obtain ⟨k, ek, rfl⟩ := Option.map_eq_some_iff.mp e'
    exact dict (valD l k) (by show (keyD dx).map _ = _; rw [ek]; rfl) rfl
  · rename_i l
    obtain ⟨k, ek, rfl⟩ := Option.map_eq_some_iff.mp e'
    exact dict (valD l k) (by show (tkeyD dx).map _ = _; rw [ek]; rfl) rfl
  · cases e'
def cIn : Cmp .In := ⟨fun x y => (inF x y).map fun b => if false then !b else b, fun X h => inF_in h false _ rfl⟩
def cNotIn : Cmp .NotIn := ⟨fun x y => (inF x y).map fun b => if true then !b else b, fun X h => inF_in h true _ rfl⟩
end C

set_option maxRecDepth 100000
set_option maxHeartbeats 4000000
namespace C
open PySem L2

/-! ### comparisons as values and tests -/
def cmpEq : CmpOp → CmpOp → Bool
  | .Eq, .Eq => true | .NotEq, .NotEq => true | .Lt, .Lt => true | .LtE, .LtE => true | .Gt, .Gt => true | .GtE, .GtE => true | .Is, .Is => true | .IsNot, .IsNot => true | .In, .In => true | .NotIn, .NotIn => true | _, _ => false
theorem cmpEq_ok {a b : CmpOp} (h : cmpEq a b = true) : a = b := by cases a <;> cases b <;> first | rfl | cases h
def optT (o : Option Bool) (env : Env) : TR := match o with | some b => .ok b env | none => .bad
theorem optT_post {o : Option Bool} {env : Env} {P : Bool → Env → Prop} {E : EX} (h : (optT o env).post P E) : ∃ d, o = some d ∧ P d env := by
  cases o with
  | none => exact h.elim
  | some d => exact ⟨d, rfl, h⟩
/-- the first operand is still what it was -/
theorem keep1 {sc : SC} {K : Fg} {f : Fx} {L : List Addr} {G1 G2 H2 : Hp} {σ : St} {e1 e2 : Env} {a b : CE} {dx dy : D} {x : V} (hp : a.bor = none ∨ b.pur = true) (v1 : VRel sc K G1 σ e1 a.bor dx x) (eb : b.ev e1 = .ok dy e2) (R2 : Rel sc K f L G2 H2 σ e2) (s2 : Same G1 G2) : VW K G2 H2 dx x := by
  cases hb : a.bor with
  | none => rw [hb] at v1; exact ⟨R2.le, .inl (Rep.mono (Le.of_same s2) _ _ v1)⟩
  | some i =>
    have pb : b.pur = true := hp.resolve_left (by rw [hb]; exact fun z => by cases z)
    have := b.pok pb _ _ _ eb
    subst this
    rw [hb] at v1
    exact R2.vw (bor := some i) v1
theorem cmp_core {sc : SC} {K : Fg} {a b : CE} {f : D → D → Option Bool} {W : WX} (hp : a.bor = none ∨ b.pur = true) (σ : St) (H : Hp) (Q : Bool → Hp → Prop)
    (h : tT sc K (fun env => (a.ev env).bindT fun x e1 => (b.ev e1).bindT fun y e2 => optT (f x y) e2) W σ H Q) : tTest (tOp (rBb K f) (tE sc K a.bor a.ev W) (tE sc K b.bor b.ev W)) σ H Q := by
  obtain ⟨fx, L, G, env, R, h⟩ := h
  refine ⟨fx, L, G, env, R, ER.post_mono (ER.post_bindT h) (fun dx e1 ea h x H1 G1 R1 s1 v1 => ?_) fun _ _ _ h => h⟩
  refine ⟨fx, L, G1, e1, R1, ER.post_mono (ER.post_bindT h) (fun dy e2 eb h y H2 G2 R2 s2 v2 => ?_) (XW.mono s1)⟩
  obtain ⟨d, ef, h⟩ := optT_post h
  refine ⟨G2, dx, dy, keep1 hp v1 eb R2 s2, R2.vw v2, ?_⟩
  rw [ef]
  exact ⟨_, rfl, h H2 G2 R2 (s1.trans s2)⟩
def chkCmp (op : CmpOp) (a b : CE) (sc : SC) (e : Expr) : Bool := match e with
  | .Compare x [p] [y] _ => cmpEq p op && (a.chk sc x && (b.chk sc y && ((a.bor.isNone || b.pur) && !behindInMarks p y)))
  | _ => false
theorem chkCmp_ok {op : CmpOp} {a b : CE} {sc : SC} {e : Expr} (h : chkCmp op a b sc e = true) : ∃ x y pos, e = .Compare x [op] [y] pos ∧ a.chk sc x = true ∧ b.chk sc y = true ∧ (a.bor = none ∨ b.pur = true) ∧ behindInMarks op y = false := by
  unfold chkCmp at h
  split at h
  · obtain ⟨h1, h⟩ := and3 h
    obtain ⟨h2, h⟩ := and3 h
    obtain ⟨h3, h⟩ := and3 h
    obtain ⟨h4, h5⟩ := and3 h
    have := cmpEq_ok h1
    subst this
    exact ⟨_, _, _, rfl, h2, h3, by simpa using h4, by simpa using h5⟩
  · cases h
def CT.cmp {op : CmpOp} (o : Cmp op) (a b : CE) : CT where
  chk := chkCmp op a b
  req r := a.req r ∧ b.req r
  ev env := (a.ev env).bindT fun x e1 => (b.ev e1).bindT fun y e2 => optT (o.f x y) e2
  sound sc X e W hc k q tk := by
    obtain ⟨x, y, pos, rfl, h1, h2, h3, h4⟩ := chkCmp_ok hc
    exact (pt_cmpR (o.ok X k.un) (a.sound sc X x W h1 k q.1 tk) (b.sound sc X y W h2 k q.2 tk) h4).imp (cmp_core h3)
def CE.cmp {op : CmpOp} (o : Cmp op) (a b : CE) : CE where
  chk := chkCmp op a b
  req r := a.req r ∧ b.req r
  bor := none
  pur := a.pur && b.pur
  ev env := (a.ev env).bind fun x e1 => (b.ev e1).bind fun y e2 => optE ((o.f x y).map D.bl) e2
  pok := bin_pur (f := fun x y => (o.f x y).map D.bl)
  bok i h := by cases h
  sound sc X e W hc k q tk := by
    obtain ⟨x, y, pos, rfl, h1, h2, h3, h4⟩ := chkCmp_ok hc
    refine (pe_cmpR (o.ok X k.un) (a.sound sc X x W h1 k q.1 tk) (b.sound sc X y W h2 k q.2 tk) h4).imp fun σ H Q h => ?_
    obtain ⟨fx, L, G, env, R, h⟩ := h
    refine ⟨fx, L, G, env, R, ER.post_mono (ER.post_bind h) (fun dx e1 ea h x H1 G1 R1 s1 v1 => ?_) fun _ _ _ h => h⟩
    refine ⟨fx, L, G1, e1, R1, ER.post_mono (ER.post_bind h) (fun dy e2 eb h y H2 G2 R2 s2 v2 => ?_) (XW.mono s1)⟩
    obtain ⟨d, ef, h⟩ := optE_post h
    obtain ⟨b', ef2, rfl⟩ := Option.map_eq_some_iff.mp ef
    refine ⟨G2, dx, dy, keep1 h3 v1 eb R2 s2, R2.vw v2, ?_⟩
    rw [ef2]
    exact h _ H2 G2 R2 (s1.trans s2) rfl
/-- a op1 b op2 c, none of them borrowed -/
def chkChain (op op' : CmpOp) (a b c : CE) (sc : SC) (e : Expr) : Bool := match e with
  | .Compare x [p, p'] [y, z] _ => cmpEq p op && (cmpEq p' op' && (a.chk sc x && (b.chk sc y && (c.chk sc z && (a.bor.isNone && (b.bor.isNone && !lastMarks [p, p'] [y, z]))))))
  | _ => false
def evChain {op op' : CmpOp} (o : Cmp op) (o' : Cmp op') (a b c : CE) (env : Env) : TR :=
  (a.ev env).bindT fun x e1 => (b.ev e1).bindT fun y e2 => (optT (o.f x y) e2).bindT fun k e2 => if k = true then (c.ev e2).bindT fun z e3 => optT (o'.f y z) e3 else .ok false e2
theorem chain_core {sc : SC} {K : Fg} {op op' : CmpOp} {o : Cmp op} {o' : Cmp op'} {a b c : CE} {W : WX} (ha : a.bor = none) (hb : b.bor = none) (σ : St) (H : Hp) (Q : VK)
    (h : tT sc K (evChain o o' a b c) W σ H fun b H' => Q (.bl b) H') : tChain (rBb K o.f) (rBb K o'.f) (tE sc K a.bor a.ev W) (tE sc K b.bor b.ev W) (tE sc K c.bor c.ev W) σ H Q := by
  obtain ⟨fx, L, G, env, R, h⟩ := h
  refine ⟨fx, L, G, env, R, ER.post_mono (ER.post_bindT h) (fun dx e1 ea h x H1 G1 R1 s1 v1 => ?_) fun _ _ _ h => h⟩
  refine ⟨fx, L, G1, e1, R1, ER.post_mono (ER.post_bindT h) (fun dy e2 eb h y H2 G2 R2 s2 v2 => ?_) (XW.mono s1)⟩
  obtain ⟨d, ef, h⟩ := optT_post (TR.post_bindT h)
  refine ⟨G2, dx, dy, keep1 (.inl ha) v1 eb R2 s2, R2.vw v2, ?_⟩
  rw [ef]
  refine ⟨_, rfl, ?_⟩
  cases d with
  | false => exact iteF (h H2 G2 R2 (s1.trans s2))
  | true =>
    refine iteT ⟨fx, L, G2, e2, R2, ER.post_mono (ER.post_bindT h) (fun dz e3 ec h z H3 G3 R3 s3 v3 => ?_) (XW.mono (s1.trans s2))⟩
    obtain ⟨d, ef, h⟩ := optT_post h
    refine ⟨G3, dy, dz, keep1 (.inl hb) v2 ec R3 s3, R3.vw v3, ?_⟩
    rw [ef]
    exact h H3 G3 R3 ((s1.trans s2).trans s3)
theorem chkChain_ok {op op' : CmpOp} {a b c : CE} {sc : SC} {e : Expr} (h : chkChain op op' a b c sc e = true) : ∃ x y z pos, e = .Compare x [op, op'] [y, z] pos ∧ a.chk sc x = true ∧ b.chk sc y = true ∧ c.chk sc z = true ∧ a.bor = none ∧ b.bor = none ∧ lastMarks [op, op'] [y, z] = false := by
  unfold chkChain at h
  split at h
  · obtain ⟨h1, h⟩ := and3 h
    obtain ⟨h2, h⟩ := and3 h
    obtain ⟨h3, h⟩ := and3 h
    obtain ⟨h4, h⟩ := and3 h
    obtain ⟨h5, h⟩ := and3 h
    obtain ⟨h6, h⟩ := and3 h
    obtain ⟨h7, h8⟩ := and3 h
    have := cmpEq_ok h1
    subst this
    have := cmpEq_ok h2
    subst this
    exact ⟨_, _, _, _, rfl, h3, h4, h5, by simpa using h6, by simpa using h7, by simpa using h8⟩
  · cases h
def CT.chain {op op' : CmpOp} (o : Cmp op) (o' : Cmp op') (a b c : CE) : CT where
  chk := chkChain op op' a b c
  req r := a.req r ∧ b.req r ∧ c.req r
  ev := evChain o o' a b c
  sound sc X e W hc k q tk := by
    obtain ⟨x, y, z, pos, rfl, h1, h2, h3, h4, h5, h6⟩ := chkChain_ok hc
    refine (pt_chain (o.ok X k.un) (o'.ok X k.un) (a.sound sc X x W h1 k q.1 tk) (b.sound sc X y W h2 k q.2.1 tk) (c.sound sc X z W h3 k q.2.2 tk) h6).imp fun σ H Q h => chain_core h4 h5 σ H _ ?_
    obtain ⟨fx, L, G, env, R, h⟩ := h
    exact ⟨fx, L, G, env, R, TR.post_mono h (fun b e _ h H' G' R s => ⟨_, rfl, h H' G' R s⟩) fun _ _ _ h => h⟩
/-- a test as a value -/
def CE.chain {op op' : CmpOp} (o : Cmp op) (o' : Cmp op') (a b c : CE) : CE where
  chk := chkChain op op' a b c
  req r := a.req r ∧ b.req r ∧ c.req r
  bor := none
  pur := false
  ev env := (evChain o o' a b c env).bind fun b e => .ok (.bl b) e
  pok h := by cases h
  bok i h := by cases h
  sound sc X e W hc k q tk := by
    obtain ⟨x, y, z, pos, rfl, h1, h2, h3, h4, h5, h6⟩ := chkChain_ok hc
    refine (pe_chain (o.ok X k.un) (o'.ok X k.un) (a.sound sc X x W h1 k q.1 tk) (b.sound sc X y W h2 k q.2.1 tk) (c.sound sc X z W h3 k q.2.2 tk) h6).imp fun σ H Q h => chain_core h4 h5 σ H _ ?_
    obtain ⟨fx, L, G, env, R, h⟩ := h
    exact ⟨fx, L, G, env, R, TR.post_mono (TR.post_bind h) (fun b e _ h H' G' R s => h _ H' G' R s rfl) fun _ _ _ h => h⟩

/-! ### truth, and, or, not -/
def truD : D → Option Bool
  | .non => some false
  | .bl b => some b
  | .int i => some (i != 0)
  | .str x => if x.length ≤ sizeLine then some ((x.length : Int) != 0) else none
  | .tup l => some !l.isEmpty
  | .lst l => some !l.isEmpty
  | .dK l => some !l.isEmpty
  | _ => none
theorem isEmpty_len {α β : Type} {l : List α} {m : List β} (h : l.length = m.length) : (!l.isEmpty) = !m.isEmpty := by
  cases l <;> cases m <;> first | rfl | simp at h
theorem RepK.length {K : Fg} {G : Hp} : ∀ {l : List (Key × D)} {xs : List (Key × V)}, RepK K G l xs → l.length = xs.length
  | [], xs, h => by cases h; rfl
  | (k, d) :: l, xs, h => by
    obtain ⟨x, r, rfl, h1, h2⟩ := h
    simp [RepK.length h2]
theorem RepT.length {K : Fg} {G : Hp} : ∀ {l : List (List Key × D)} {xs : List (List Key × V)}, RepT K G l xs → l.length = xs.length
  | [], xs, h => by cases h; rfl
  | (k, d) :: l, xs, h => by
    obtain ⟨x, r, rfl, h1, h2⟩ := h
    simp [RepT.length h2]
def plainT : Expr → Bool
  | .UnaryOp .Not _ _ => false
  | .BoolOp _ _ _ => false
  | .IfExp _ _ _ _ => false
  | .Compare _ _ _ _ => false
  | _ => true
theorem plainT_ok {e : Expr} (h : plainT e = true) (env : PySem.Env) (whole : Sem Value) : isTrue e env whole = (do let v ← whole; standAt e.pos; holding [v] (truthy v)) := by
  cases e with
  | UnaryOp op x pos => cases op <;> first | rfl | cases h
  | BoolOp _ _ _ => cases h
  | IfExp _ _ _ _ => cases h
  | Compare _ _ _ _ => cases h
  | _ => rfl
theorem truD_ok {K : Fg} {G H : Hp} {d : D} {x : V} {b : Bool} (h : VW K G H d x) (e : truD d = some b) (hl : ∀ l, d = .dK l → ∀ a, x = .ref a → ∃ kvs, H a = some (.dK kvs) ∧ RepK K G l kvs) : TruV K x H b := by
  cases d <;> try (cases e; done)
  · cases e; rw [h.non]; rfl
  · cases e; rw [h.bl]; rfl
  · cases e; rw [h.int]; rfl
  · rename_i z
    have e : (if z.length ≤ sizeLine then some ((z.length : Int) != 0) else none) = some b := e
    split at e
    · rename_i hz; cases e; rw [h.str]; exact ⟨hz, rfl⟩
    · cases e
  · cases e
    obtain ⟨a, xs, rfl, s, q⟩ := h.tup
    exact .inr (.inl ⟨xs, s, isEmpty_len q.length⟩)
  · cases e
    obtain ⟨a, xs, rfl, s, q⟩ := h.lst
    exact .inl ⟨xs, SqL.of s, isEmpty_len q.length⟩
  · cases e
    obtain ⟨a, xs, rfl, s, q⟩ := h.dK
    obtain ⟨kvs, h1, h2⟩ := hl _ rfl a rfl
    exact .inr (.inr ⟨kvs, h1, isEmpty_len h2.length⟩)
/-- truth of a value that is no dict -/
def truN (d : D) : Option Bool := match d with | .dK _ => none | d => truD d
def CT.val (c : CE) : CT where
  chk sc e := plainT e && c.chk sc e
  req := c.req
  ev env := (c.ev env).bindT fun d e => optT (truN d) e
  sound sc X e W hc k q tk := by
    obtain ⟨h1, h2⟩ := and3 hc
    refine (pt_truth (c.sound sc X e W h2 k q tk) (plainT_ok h1 _)).imp fun σ H Q h => ?_
    obtain ⟨fx, L, G, env, R, h⟩ := h
    refine ⟨fx, L, G, env, R, ER.post_mono (ER.post_bindT h) (fun dx e1 ea h x H1 G1 R1 s1 v1 => ?_) fun _ _ _ h => h⟩
    obtain ⟨b, eb, h⟩ := optT_post h
    refine ⟨b, truD_ok (R1.vw v1) ?_ ?_, h H1 G1 R1 s1⟩
    · unfold truN at eb; split at eb
      · cases eb
      · exact eb
    · rintro l rfl; cases eb
def CT.not (t : CT) : CT where
  chk sc e := match e with | .UnaryOp .Not x _ => t.chk sc x | _ => false
  req := t.req
  ev env := (t.ev env).bindT fun b e => .ok (!b) e
  sound sc X e W hc k q tk := by
    split at hc
    · refine (pt_not (t.sound sc X _ W hc k q tk)).imp fun σ H Q h => ?_
      obtain ⟨fx, L, G, env, R, h⟩ := h
      exact ⟨fx, L, G, env, R, TR.post_mono (TR.post_bindT h) (fun b e _ h H' G' R s => h H' G' R s) fun _ _ _ h => h⟩
    · cases hc
def evAnd : List CT → Env → TR
  | [], _ => .bad
  | [t], env => t.ev env
  | t :: l, env => (t.ev env).bindT fun b e => if b = true then evAnd l e else .ok false e
def evOr : List CT → Env → TR
  | [], _ => .bad
  | [t], env => t.ev env
  | t :: l, env => (t.ev env).bindT fun b e => if b = true then .ok true e else evOr l e
def chkL (l : List CT) (sc : SC) (es : List Expr) : Bool := match l, es with
  | [], [] => true
  | t :: l, e :: es => t.chk sc e && chkL l sc es
  | _, _ => false
def reqL (l : List CT) (r : Rq) : Prop := match l with
  | [] => True
  | t :: l => t.req r ∧ reqL l r
theorem and_core {sc : SC} {X : Cx} {W : WX} {pos : Pos} (k : XOk sc X) (tk : Takes X W) : ∀ (l : List CT) (es : List Expr), l ≠ [] → chkL l sc es = true → reqL l (rq X) → PW X (.BoolOp .And es pos) (tT sc X.K (evAnd l) W)
  | [], _, h, _, _ => absurd rfl h
  | [t], es, _, hc, q => by
    cases es with
    | nil => cases hc
    | cons e es =>
      cases es with
      | cons _ _ => exact nomatch (and3 hc).2
      | nil => exact pw_and1 (t.sound sc X e W (and3 hc).1 k q.1 tk)
  | t :: t2 :: l, es, _, hc, q => by
    cases es with
    | nil => cases hc
    | cons e es =>
      cases es with
      | nil => exact nomatch (and3 hc).2
      | cons e2 es =>
        refine (pw_and (t.sound sc X e W (and3 hc).1 k q.1 tk) (and_core k tk (t2 :: l) (e2 :: es) (fun z => by cases z) (and3 hc).2 q.2)).imp fun σ H Q h => ?_
        obtain ⟨fx, L, G, env, R, h⟩ := h
        refine ⟨fx, L, G, env, R, TR.post_mono (TR.post_bindT h) (fun b e1 _ h H' G' R' s => ?_) fun _ _ _ h => h⟩
        cases b with
        | false => exact iteF (h H' G' R' s)
        | true => exact iteT ⟨fx, L, G', e1, R', TR.post_mono h (fun b e _ h H2 G2 R2 s2 => h H2 G2 R2 (s.trans s2)) (XW.mono s)⟩
theorem or_core {sc : SC} {X : Cx} {W : WX} {pos : Pos} (k : XOk sc X) (tk : Takes X W) : ∀ (l : List CT) (es : List Expr), l ≠ [] → chkL l sc es = true → reqL l (rq X) → PW X (.BoolOp .Or es pos) (tT sc X.K (evOr l) W)
  | [], _, h, _, _ => absurd rfl h
  | [t], es, _, hc, q => by
    cases es with
    | nil => cases hc
    | cons e es =>
      cases es with
      | cons _ _ => exact nomatch (and3 hc).2
      | nil => exact pw_or1 (t.sound sc X e W (and3 hc).1 k q.1 tk)
  | t :: t2 :: l, es, _, hc, q => by
    cases es with
    | nil => cases hc
    | cons e es =>
      cases es with
      | nil => exact nomatch (and3 hc).2
      | cons e2 es =>
        refine (pw_or (t.sound sc X e W (and3 hc).1 k q.1 tk) (or_core k tk (t2 :: l) (e2 :: es) (fun z => by cases z) (and3 hc).2 q.2)).imp fun σ H Q h => ?_
        obtain ⟨fx, L, G, env, R, h⟩ := h
        refine ⟨fx, L, G, env, R, TR.post_mono (TR.post_bindT h) (fun b e1 _ h H' G' R' s => ?_) fun _ _ _ h => h⟩
        cases b with
        | true => exact iteT (h H' G' R' s)
        | false => exact iteF ⟨fx, L, G', e1, R', TR.post_mono h (fun b e _ h H2 G2 R2 s2 => h H2 G2 R2 (s.trans s2)) (XW.mono s)⟩
def CT.and (l : List CT) : CT where
  chk sc e := match e with | .BoolOp .And es _ => !l.isEmpty && chkL l sc es | _ => false
  req := reqL l
  ev := evAnd l
  sound sc X e W hc k q tk := by
    split at hc
    · exact (and_core k tk l _ (fun z => by rw [z] at hc; cases hc) (and3 hc).2 q).pt
    · cases hc
def CT.or (l : List CT) : CT where
  chk sc e := match e with | .BoolOp .Or es _ => !l.isEmpty && chkL l sc es | _ => false
  req := reqL l
  ev := evOr l
  sound sc X e W hc k q tk := by
    split at hc
    · exact (or_core k tk l _ (fun z => by rw [z] at hc; cases hc) (and3 hc).2 q).pt
    · cases hc
/-- a if t else b -/
def CE.ite (t : CT) (a b : CE) : CE where
  chk sc e := match e with | .IfExp c x y _ => t.chk sc c && (a.chk sc x && (b.chk sc y && (a.bor.isNone && b.bor.isNone))) | _ => false
  req r := t.req r ∧ a.req r ∧ b.req r
  bor := none
  pur := false
  ev env := (t.ev env).bind fun c e => if c = true then a.ev e else b.ev e
  pok h := by cases h
  bok i h := by cases h
  sound sc X e W hc k q tk := by
    split at hc
    · obtain ⟨h1, h⟩ := and3 hc
      obtain ⟨h2, h⟩ := and3 h
      obtain ⟨h3, h⟩ := and3 h
      obtain ⟨h4, h5⟩ := and3 h
      refine (pe_ifExp (t.sound sc X _ W h1 k q.1 tk) (a.sound sc X _ W h2 k q.2.1 tk) (b.sound sc X _ W h3 k q.2.2 tk)).imp fun σ H Q h => ?_
      have ea : a.bor = none := by simpa using h4
      have eb : b.bor = none := by simpa using h5
      obtain ⟨fx, L, G, env, R, h⟩ := h
      refine ⟨fx, L, G, env, R, TR.post_mono (TR.post_bind h) (fun c e1 _ h H' G' R' s => ?_) fun _ _ _ h => h⟩
      cases c with
      | true => exact iteT ⟨fx, L, G', e1, R', ER.post_mono h (fun b e _ h v H2 G2 R2 s2 r => h v H2 G2 R2 (s.trans s2) (by rw [ea] at r; exact r)) (XW.mono s)⟩
      | false => exact iteF ⟨fx, L, G', e1, R', ER.post_mono h (fun b e _ h v H2 G2 R2 s2 r => h v H2 G2 R2 (s.trans s2) (by rw [eb] at r; exact r)) (XW.mono s)⟩
    · cases hc
end C

set_option maxRecDepth 100000
set_option maxHeartbeats 4000000
namespace C
open PySem L2
section
variable {sc : SC} {K : Fg} {f : Fx} {L : List Addr} {G H : Hp} {σ : St} {env : Env}
/-! ### slots -/
theorem set_get {α : Type} {l : List (Option α)} {i j : Nat} {x y : α} (h : (l.set i (some x))[j]? = some (some y)) : (j = i ∧ y = x ∧ i < l.length) ∨ (j ≠ i ∧ l[j]? = some (some y)) := by
  by_cases e : j = i
  · subst e
    by_cases hl : j < l.length
    · rw [List.getElem?_set_self hl] at h
      cases h
      exact .inl ⟨rfl, rfl, hl⟩
    · rw [List.getElem?_eq_none (by simpa using hl)] at h
      cases h
  · rw [List.getElem?_set_ne (fun z => e z.symm)] at h
    exact .inr ⟨e, h⟩
theorem set_self {α : Type} {l : List (Option α)} {i : Nat} {x : α} (h : i < l.length) : (l.set i (some x))[i]? = some (some x) := List.getElem?_set_self h
theorem Rel.set (R : Rel sc K f L G H σ env) {i : Nat} {d : D} {v : V} (hi : i ∉ sc.ow) (r : Rep K G d v) : Rel sc K f L G H (σ.set i (some v)) (env.set i (some d)) where
  sub := R.sub
  frm := R.frm
  new := R.new
  g0 := R.g0
  dom := R.dom
  lk := R.lk
  len := by rw [List.length_set, List.length_set]; exact R.len
  frz := fun j e hj h => by
    rcases set_get h with ⟨rfl, rfl, hl⟩ | ⟨hne, h⟩
    · exact ⟨v, set_self (by rw [← R.len]; exact hl), r⟩
    · obtain ⟨w, h1, h2⟩ := R.frz j e hj h
      exact ⟨w, by rw [List.getElem?_set_ne (fun z => hne z.symm)]; exact h1, h2⟩
  own := fun j e hj h => by
    have hne : j ≠ i := fun z => hi (z ▸ hj)
    rw [List.getElem?_set_ne (fun z => hne z.symm)] at h
    rw [List.getElem?_set_ne (fun z => hne z.symm)]
    exact R.own j e hj h
  dis := fun j k dj dk a hj hk ej ek => by
    have h1 : j ≠ i := fun z => hi (z ▸ hj)
    have h2 : k ≠ i := fun z => hi (z ▸ hk)
    rw [List.getElem?_set_ne (fun z => h1.symm z)] at ej ⊢
    rw [List.getElem?_set_ne (fun z => h2.symm z)] at ek ⊢
    exact R.dis j k dj dk a hj hk ej ek
  par := fun p hp => by
    have h1 : i ≠ p := fun z => hi (z ▸ R.rpo p hp)
    rw [List.getElem?_set_ne h1]
    exact R.par p hp
  rpo := R.rpo
  lim := fun p hp => by rw [List.length_set]; exact R.lim p hp
  gf := R.gf
  tab := R.tab
/-- a new object goes to a slot of its own -/
theorem Rel.setF (R : Rel sc K f L G H σ env) {i : Nat} {d : D} {v : V} (hi : i ∈ sc.ow) (hip : i ∉ sc.rp) (r : FrRel sc K f L G H σ env d v) : Rel sc K f L G H (σ.set i (some v)) (env.set i (some d)) := by
  obtain ⟨a, o, rfl, ho, ro, ga, fa, la, ba, na⟩ := r
  refine ⟨R.sub, R.frm, R.new, R.g0, R.dom, R.lk, by rw [List.length_set, List.length_set]; exact R.len, fun j e hj h => ?_, fun j e hj h => ?_, fun j k dj dk b hj hk ej ek sj sk => ?_, fun p hp => ?_, R.rpo, (fun p hp => by rw [List.length_set]; exact R.lim p hp), R.gf, R.tab⟩
  · have hne : j ≠ i := fun z => hj (z ▸ hi)
    rw [List.getElem?_set_ne (fun z => hne z.symm)] at h
    rw [List.getElem?_set_ne (fun z => hne z.symm)]
    exact R.frz j e hj h
  · rcases set_get h with ⟨rfl, rfl, hl⟩ | ⟨hne, h⟩
    · exact ⟨a, o, set_self (by rw [← R.len]; exact hl), ho, ro, ga, fa, la, .inr ba⟩
    · rw [List.getElem?_set_ne (fun z => hne z.symm)]
      exact R.own j e hj h
  · rcases set_get ej with ⟨rfl, rfl, hl⟩ | ⟨hne, ej⟩
    · rcases set_get ek with ⟨rfl, rfl, _⟩ | ⟨hne2, ek⟩
      · rfl
      · rw [set_self (by rw [← R.len]; exact hl)] at sj
        cases sj
        rw [List.getElem?_set_ne (fun z => hne2 z.symm)] at sk
        exact absurd sk (na k _ hk ek)
    · rw [List.getElem?_set_ne (fun z => hne z.symm)] at sj
      rcases set_get ek with ⟨rfl, rfl, hl⟩ | ⟨hne2, ek⟩
      · rw [set_self (by rw [← R.len]; exact hl)] at sk
        cases sk
        exact absurd sj (na j dj hj (by assumption))
      · rw [List.getElem?_set_ne (fun z => hne2 z.symm)] at sk
        exact R.dis j k dj dk b hj hk ej ek sj sk
  · have h1 : i ≠ p := fun z => hip (z ▸ hp)
    rw [List.getElem?_set_ne h1]
    exact R.par p hp
/-- a slot is forgotten -/
theorem Rel.drop (R : Rel sc K f L G H σ env) (i : Nat) : Rel sc K f L G H σ (env.set i none) := by
  have key : ∀ j d, (env.set i none)[j]? = some (some d) → env[j]? = some (some d) := fun j d h => by
    by_cases e : i = j
    · subst e
      by_cases hl : i < env.length
      · rw [List.getElem?_set_self hl] at h; cases h
      · rw [List.getElem?_eq_none (by simpa using hl)] at h; cases h
    · rw [List.getElem?_set_ne e] at h; exact h
  exact ⟨R.sub, R.frm, R.new, R.g0, R.dom, R.lk, by rw [List.length_set]; exact R.len, fun j e hj h => R.frz j e hj (key _ _ h), fun j e hj h => R.own j e hj (key _ _ h), fun j k dj dk a hj hk ej ek => R.dis j k dj dk a hj hk (key _ _ ej) (key _ _ ek), R.par, R.rpo, R.lim, R.gf, R.tab⟩
/-- the object of a slot is let go to whoever wants it -/
theorem Rel.take (R : Rel sc K f L G H σ env) {i : Nat} {d : D} (hi : i ∈ sc.ow) (hp : i ∉ sc.rp) (e : env[i]? = some (some d)) : ∃ v, σ[i]? = some (some v) ∧ FrRel sc K f L G H σ (env.set i none) d v := by
  obtain ⟨a, o, h1, h2, h3, h4, h5, h6, h7⟩ := R.own i d hi e
  refine ⟨_, h1, a, o, rfl, h2, h3, h4, h5, h6, h7.resolve_left hp, fun j d' hj ej sj => ?_⟩
  have hne : i ≠ j := fun z => by
    subst z
    have hl : i < env.length := (List.getElem?_eq_some_iff.mp e).1
    rw [List.getElem?_set_self hl] at ej
    cases ej
  rw [List.getElem?_set_ne hne] at ej
  exact hne (R.dis i j d d' a hi hj e ej h1 sj)
/-- .. and frozen -/
theorem Rel.freeze (R : Rel sc K f L G H σ env) {d : D} {v : V} (r : FrRel sc K f L G H σ env d v) : ∃ G', Rel sc K f L G' H σ env ∧ Same G G' ∧ Rep K G' d v := by
  obtain ⟨a, o, rfl, ho, ro, ga, fa, la, ba, na⟩ := r
  have sm : Same G (upd G a o) := same_upd ga
  refine ⟨upd G a o, ⟨fun b u e => ?_, R.frm, fun b u e => ?_, R.g0.trans sm, R.dom, fun b hb => ⟨(R.lk b hb).1, fun u e => ?_, (R.lk b hb).2.2⟩, R.len, fun i e hi h => ?_, fun i e hi h => ?_, R.dis, R.par, R.rpo, R.lim, fun b u e1 e2 nt => ?_, ⟨R.tab.tabs, R.tab.g.upd ro.plain.1, R.tab.f⟩⟩, sm, ?_⟩
  · by_cases h : b = a
    · subst h; rw [upd_same] at e; cases e; exact .inl ⟨la, ho⟩
    · rw [upd_ne h] at e; exact R.sub b u e
  · by_cases h : b = a
    · subst h; exact .inr (.inl ba)
    · rw [upd_ne h] at e; exact R.new b u e
  · have h : b ≠ a := fun z => la (z ▸ hb)
    rw [upd_ne h] at e
    exact (R.lk b hb).2.1 u e
  · obtain ⟨w, h1, h2⟩ := R.frz i e hi h
    exact ⟨w, h1, Rep.mono (Le.of_same sm) _ _ h2⟩
  · obtain ⟨b, u, h1, h2, h3, h4, h5⟩ := R.own i e hi h
    have hb : b ≠ a := fun z => by subst z; exact na i e hi h h1
    exact ⟨b, u, h1, h2, h3.mono (Le.of_same sm), by rw [upd_ne hb]; exact h4, h5⟩
  · have hb : b ≠ a := fun z => by subst z; rw [fa] at e1; cases e1
    rw [upd_ne hb]; exact R.gf b u e1 e2 nt
  · cases d with
    | lst l => obtain ⟨xs, rfl, q⟩ := ro; exact ⟨a, xs, rfl, upd_same, Reps.mono (Le.of_same sm) _ _ q⟩
    | dK l => obtain ⟨xs, rfl, q⟩ := ro; exact ⟨a, xs, rfl, .inl upd_same, RepK.mono (Le.of_same sm) _ _ q⟩
    | dT l => obtain ⟨xs, rfl, q⟩ := ro; exact ⟨a, xs, rfl, .inl upd_same, RepT.mono (Le.of_same sm) _ _ q⟩
    | ins c l => obtain ⟨dx, xs, rfl, q⟩ := ro; exact ⟨a, dx, xs, rfl, upd_same, RepF.mono (Le.of_same sm) _ _ q⟩
    | _ => exact ro.elim
/-- a new object just laid -/
theorem Rel.fresh (R : Rel sc K f L G H σ env) {p : Addr} {o : HO} {d : D} (hp : H p = none) (ro : ORep K G d o) : Rel sc K f L G (upd H p o) σ env ∧ FrRel sc K f L G (upd H p o) σ env d (.ref p) := by
  refine ⟨R.grow (same_upd hp) (Same.refl _) (fun a u e => .inl e) R.tab.g, p, o, rfl, upd_same, ro, R.gnone hp, ?_, fun z => (R.lk p z).1 hp, R.dom p hp, fun i d' hi e s => ?_⟩
  · cases e : f.F p with
    | none => rfl
    | some u => exact absurd hp (R.frm p u e).some
  · obtain ⟨a, u, h1, h2, _⟩ := R.own i d' hi e
    rw [s] at h1
    cases h1
    rw [hp] at h2
    cases h2
end
/-- a new object, frozen -/
def CE.ofF (c : CF) : CE where
  chk := c.chk
  req := c.req
  bor := none
  pur := c.pur
  ev := c.ev
  pok := c.pok
  bok i h := by cases h
  sound sc X e W hc k q tk := (c.sound sc X e W hc k q tk).imp fun σ H Q h => by
    obtain ⟨fx, L, G, env, R, h⟩ := h
    refine ⟨fx, L, G, env, R, ER.post_mono h (fun d e1 _ h v H1 G1 R1 s1 r => ?_) fun _ _ _ h => h⟩
    obtain ⟨G2, R2, s2, r2⟩ := R1.freeze r
    exact h v H1 G2 R2 (s1.trans s2) r2
/-- the object of a name, let go and frozen -/
def evMove (i : Nat) (env : Env) : ER := match env[i]? with | some (some d) => .ok d (env.set i none) | _ => .bad
theorem evMove_post {i : Nat} {env : Env} {P : D → Env → Prop} {E : EX} (h : (evMove i env).post P E) : ∃ d, env[i]? = some (some d) ∧ P d (env.set i none) := by
  unfold evMove at h
  split at h
  · rename_i d e; exact ⟨d, e, h⟩
  · exact h.elim
def CF.move (i : Nat) : CF where
  chk sc e := match e with | .Name x _ => chkVar sc i x && (sc.ow.contains i && !(sc.rp.contains i)) | _ => false
  req _ := True
  pur := false
  ev := evMove i
  pok h := by cases h
  sound sc X e W hc k _ _ := by
    split at hc
    · obtain ⟨h1, h⟩ := and3 hc
      obtain ⟨h2, h3⟩ := and3 h
      refine (chkVar_ok h1 k).imp fun σ H Q h => ?_
      obtain ⟨f, L, G, env, R, h⟩ := h
      obtain ⟨d, e1, h⟩ := evMove_post h
      obtain ⟨v, hv, r⟩ := R.take (by simpa using h2) (by simpa using h3) e1
      exact ⟨v, hv, h v H G (R.drop i) (Same.refl _) r⟩
    · cases hc
/-! ### argument lists, displays -/
def CA.nil : CA where
  chk _ es := match es with | [] => true | _ => false
  req _ := True
  ev env := .ok [] env
  sound sc X e W hc k q tk := by
    split at hc
    · refine pa_nil.imp fun σ H Q h => ?_
      obtain ⟨fx, L, G, env, R, h⟩ := h
      exact h [] H G R (Same.refl _) rfl
    · cases hc
def notStar : Expr → Bool
  | .Starred _ _ => false
  | _ => true
theorem notStar_ok {e : Expr} {es : List Expr} {env : PySem.Env} (h : notStar e = true) : starEach (e :: es) env = (false, eval e env) :: starEach es env := by
  cases e <;> first | rfl | cases h
def CA.cons (c : CE) (r : CA) : CA where
  chk sc es := match es with | e :: es => notStar e && (c.bor.isNone && (c.chk sc e && r.chk sc es)) | _ => false
  req z := c.req z ∧ r.req z
  ev env := (c.ev env).bindA fun d e => (r.ev e).bindA fun ds e => .ok (d :: ds) e
  sound sc X e W hc k q tk := by
    split at hc
    · obtain ⟨h1, h⟩ := and3 hc
      obtain ⟨h2, h⟩ := and3 h
      obtain ⟨h3, h4⟩ := and3 h
      refine (pa_cons (c.sound sc X _ W h3 k q.1 tk) (r.sound sc X _ W h4 k q.2 tk) (notStar_ok h1)).imp fun σ H Q h => ?_
      have hb : c.bor = none := by simpa using h2
      obtain ⟨fx, L, G, env, R, h⟩ := h
      refine ⟨fx, L, G, env, R, ER.post_mono (ER.post_bindA h) (fun d e1 _ h v H1 G1 R1 s1 r1 => ?_) fun _ _ _ h => h⟩
      rw [hb] at r1
      refine ⟨fx, L, G1, e1, R1, AR.post_mono (AR.post_bindA h) (fun ds e2 _ h vs H2 G2 R2 s2 r2 => ?_) (XW.mono s1)⟩
      exact h (v :: vs) H2 G2 R2 (s1.trans s2) ⟨v, vs, rfl, Rep.mono (Le.of_same s2) _ _ r1, r2⟩
    · cases hc
/-- *c, c a list or a tuple -/
def CA.star (c : CE) (r : CA) : CA where
  chk sc es := match es with | .Starred e _ :: es => c.bor.isNone && (c.chk sc e && r.chk sc es) | _ => false
  req z := c.req z ∧ r.req z
  ev env := (c.ev env).bindA fun d e => match d with
    | .lst l => (r.ev e).bindA fun ds e => .ok (l ++ ds) e
    | .tup l => (r.ev e).bindA fun ds e => .ok (l ++ ds) e
    | _ => .bad
  sound sc X e W hc k q tk := by
    split at hc
    · obtain ⟨h1, h⟩ := and3 hc
      obtain ⟨h2, h3⟩ := and3 h
      refine (StX.pa_star (c.sound sc X _ W h2 k q.1 tk) (r.sound sc X _ W h3 k q.2 tk)).imp fun σ H Q h => ?_
      have hb : c.bor = none := by simpa using h1
      obtain ⟨fx, L, G, env, R, h⟩ := h
      refine ⟨fx, L, G, env, R, ER.post_mono (ER.post_bindA h) (fun d e1 _ h v H1 G1 R1 s1 r1 => ?_) fun _ _ _ h => h⟩
      rw [hb] at r1
      have w := R1.vw (bor := none) r1
      cases d with
      | lst l =>
        obtain ⟨a, xs, rfl, hx, rr⟩ := w.lst
        refine ⟨a, xs, rfl, .inr (SqL.of hx), fx, L, G1, e1, R1, AR.post_mono (AR.post_bindA h) (fun ds e2 _ h vs H2 G2 R2 s2 r2 => ?_) (XW.mono s1)⟩
        exact h (xs ++ vs) H2 G2 R2 (s1.trans s2) ((Reps.mono (Le.of_same s2) _ _ rr).append r2)
      | tup l =>
        obtain ⟨a, xs, rfl, hx, rr⟩ := w.tup
        refine ⟨a, xs, rfl, .inl hx, fx, L, G1, e1, R1, AR.post_mono (AR.post_bindA h) (fun ds e2 _ h vs H2 G2 R2 s2 r2 => ?_) (XW.mono s1)⟩
        exact h (xs ++ vs) H2 G2 R2 (s1.trans s2) ((Reps.mono (Le.of_same s2) _ _ rr).append r2)
      | _ => exact h.elim
    · cases hc
def CE.tup (r : CA) : CE where
  chk sc e := match e with | .Tuple es _ _ => r.chk sc es | _ => false
  req := r.req
  bor := none
  pur := false
  ev env := (r.ev env).bind fun ds e => if ds.length ≤ sizeLine then .ok (.tup ds) e else .bad
  pok h := by cases h
  bok i h := by cases h
  sound sc X e W hc k q tk := by
    split at hc
    · refine (pe_tup (r.sound sc X _ W hc k q tk)).imp fun σ H Q h => ?_
      obtain ⟨fx, L, G, env, R, h⟩ := h
      refine ⟨fx, L, G, env, R, AR.post_mono (AR.post_bind h) (fun ds e1 _ h vs H1 G1 R1 s1 r1 => ?_) fun _ _ _ h => h⟩
      by_cases hl : ds.length ≤ sizeLine
      · rw [if_pos hl] at h
        refine ⟨by rw [← r1.length]; exact hl, fun p hp => ?_⟩
        have R2 := R1.alloc (o := .tup vs) hp
        have s2 : Same G1 (upd G1 p (.tup vs)) := same_upd (R1.gnone hp)
        exact h (.ref p) _ _ R2 (s1.trans s2) ⟨p, vs, rfl, .inl upd_same, Reps.mono (Le.of_same s2) _ _ r1⟩
      · rw [if_neg hl] at h; exact h.elim
    · cases hc
def CF.lst (r : CA) : CF where
  chk sc e := match e with | .List es _ => r.chk sc es | _ => false
  req := r.req
  pur := false
  ev env := (r.ev env).bind fun ds e => if ds.length ≤ sizeLine then .ok (.lst ds) e else .bad
  pok h := by cases h
  sound sc X e W hc k q tk := by
    split at hc
    · refine (pe_lst (r.sound sc X _ W hc k q tk)).imp fun σ H Q h => ?_
      obtain ⟨fx, L, G, env, R, h⟩ := h
      refine ⟨fx, L, G, env, R, AR.post_mono (AR.post_bind h) (fun ds e1 _ h vs H1 G1 R1 s1 r1 => ?_) fun _ _ _ h => h⟩
      by_cases hl : ds.length ≤ sizeLine
      · rw [if_pos hl] at h
        refine ⟨by rw [← r1.length]; exact hl, fun p hp => ?_⟩
        obtain ⟨R2, fr⟩ := R1.fresh (o := .lst vs) (d := .lst ds) hp ⟨vs, rfl, r1⟩
        exact h (.ref p) _ _ R2 s1 fr
      · rw [if_neg hl] at h; exact h.elim
    · cases hc
/-! ### items -/
def fIx : D → D → Option D
  | .lst l, .int i => atI l i
  | .tup l, .int i => atI l i
  | .scr l, .int i => (atI l i).map D.int
  | .str z, .int i => if z.length ≤ sizeLine then (atI z.cps.toList i).map fun c => .str ⟨#[c]⟩ else none
  | .dK l, y => (keyD y).bind fun k => valD l k
  | .dT l, y => (tkeyD y).bind fun k => valD l k
  | _, _ => none
theorem Reps.at {K : Fg} {G : Hp} : ∀ {l : List D} {xs : List V} {j : Nat} {d : D}, Reps K G l xs → l[j]? = some d → ∃ v, xs[j]? = some v ∧ Rep K G d v
  | [], _, _, _, _, h => by simp at h
  | d0 :: l, xs, 0, d, r, h => by
    obtain ⟨x, t, rfl, r1, r2⟩ := r
    simp at h; subst h
    exact ⟨x, rfl, r1⟩
  | d0 :: l, xs, j + 1, d, r, h => by
    obtain ⟨x, t, rfl, r1, r2⟩ := r
    obtain ⟨v, h1, h2⟩ := Reps.at (j := j) r2 (by simpa using h)
    exact ⟨v, by simpa using h1, h2⟩
theorem Reps.atI {K : Fg} {G : Hp} {l : List D} {xs : List V} {i : Int} {d : D} (r : Reps K G l xs) (h : L2.atI l i = some d) : ∃ v, L2.atI xs i = some v ∧ Rep K G d v := by
  unfold L2.atI at h ⊢
  rw [← r.length]
  cases e : ixN l.length i with
  | none => rw [e] at h; cases h
  | some j =>
    rw [e] at h
    exact r.at h
theorem ixF_ok {X : Cx} (hu : X.A.units + 100 < cLine) : IxR X (rB X.K fIx) := by
  intro value slice pins s σ H x y v u Q I rx ry q hs
  obtain ⟨G, dx, dy, v1, v2, h⟩ := q
  cases e : fIx dx dy with
  | none => rw [e] at h; exact h.elim
  | some d =>
    rw [e] at h
    have dict : ∀ o, getD? dx dy = some (some o) → o = d → wpAny (model X.prog X.w) X.A (PyProof.Rows.subscriptTail value slice v u) (EP X pins σ Q) X.xe s := by
      intro o eo ed
      subst ed
      obtain ⟨a, r, rfl, g, hr⟩ := getD_ok v1 v2 eo
      rcases hr with ⟨h1, _⟩ | ⟨d, w, h1, h2, h3⟩
      · cases h1
      · cases h1
        subst h2
        cases rx
        exact PyProof.Rows.tail_any (dict_typeIs I g) PySem.F.slot_dict_getitem.lookup (d_getItem (by omega) I g ry fun w' s3 I3 rw' => ⟨w, H, I3, rw', h _ H G (Nw.refl _ _) h3⟩) hs
    unfold fIx at e
    split at e
    · obtain ⟨a, xs, ex, sx, rr⟩ := v1.lst
      obtain ⟨w, h1, h2⟩ := rr.atI e
      exact ix_list value slice pins s σ H x y v u Q I rx ry ⟨a, xs, _, w, ex, v2.int, SqL.of sx, h1, h _ H G (Nw.refl _ _) h2⟩ hs
    · obtain ⟨a, xs, ex, sx, rr⟩ := v1.tup
      obtain ⟨w, h1, h2⟩ := rr.atI e
      exact ix_tup value slice pins s σ H x y v u Q I rx ry ⟨a, xs, _, w, ex, v2.int, sx, h1, h _ H G (Nw.refl _ _) h2⟩ hs
    · obtain ⟨j, e2, rfl⟩ := Option.map_eq_some_iff.mp e
      clear e
      have e := e2
      obtain ⟨a, ex, sx⟩ := v1.scr
      refine ix_list value slice pins s σ H x y v u Q I rx ry ⟨a, _, _, .int j, ex, v2.int, sx, ?_, h _ H G (Nw.refl _ _) rfl⟩ hs
      unfold L2.atI at e ⊢
      rw [List.length_map]
      cases ei : ixN _ _ with
      | none => rw [ei] at e; cases e
      | some m =>
        rw [ei] at e
        have e3 := (show _ = some j from e)
        simp only [Option.bind_some] at e3 ⊢
        rw [List.getElem?_map, e3]
        rfl
    · split at e
      · rename_i hz
        obtain ⟨c, e2, rfl⟩ := Option.map_eq_some_iff.mp e
        exact ix_str value slice pins s σ H x y v u Q I rx ry ⟨_, _, c, v1.str, v2.int, hz, e2, h _ H G (Nw.refl _ _) rfl⟩ hs
      · cases e
    · obtain ⟨k, e1, e2⟩ := Option.bind_eq_some_iff.mp e
      exact dict d (by show (keyD dy).map _ = _; rw [e1, ← e2]; rfl) rfl
    · obtain ⟨k, e1, e2⟩ := Option.bind_eq_some_iff.mp e
      exact dict d (by show (tkeyD dy).map _ = _; rw [e1, ← e2]; rfl) rfl
    · cases e
def notSlice : Expr → Bool
  | .Slice _ _ _ _ => false
  | _ => true
theorem notSlice_ok {e : Expr} (h : notSlice e = true) : PlainIx e := fun o i => by cases e <;> first | rfl | cases h
def CE.ix (a b : CE) : CE where
  chk sc e := match e with | .Subscript x y _ => notSlice y && (a.chk sc x && (b.chk sc y && (a.bor.isNone || b.pur))) | _ => false
  req r := a.req r ∧ b.req r
  bor := none
  pur := a.pur && b.pur
  ev env := (a.ev env).bind fun x e1 => (b.ev e1).bind fun y e2 => optE (fIx x y) e2
  pok := bin_pur
  bok i h := by cases h
  sound sc X e W hc k q tk := by
    split at hc
    · obtain ⟨h1, h⟩ := and3 hc
      obtain ⟨h2, h⟩ := and3 h
      obtain ⟨h3, h4⟩ := and3 h
      refine (pe_ix (ixF_ok k.un) (a.sound sc X _ W h2 k q.1 tk) (b.sound sc X _ W h3 k q.2 tk) (notSlice_ok h1)).imp (bin_core ?_)
      simpa using h4
    · cases hc
end C

set_option maxRecDepth 100000
set_option maxHeartbeats 4000000
namespace C
open PySem L2
/-! ### targets -/
def tG (sc : SC) (K : Fg) (slots : List Nat) (asg : D → Env → Option Env) : TG := fun v σ H Q => ∃ f L G env d, Rel sc K f L G H σ env ∧ Rep K G d v ∧ match asg d env with
  | some env' => ∀ σ', Rel sc K f L G H σ' env' → (∀ vs : List Nat, (∀ i ∈ slots, i ∈ vs) → wipe σ' vs = wipe σ vs) → Q σ' H
  | none => False
structure CG where
  slots : List Nat
  chk : SC → Expr → Bool
  asg : D → Env → Option Env
  sound : ∀ sc X e, chk sc e = true → XOk sc X → PG X e (tG sc X.K slots asg)
def chkLoc (sc : SC) (i : Nat) (x : Str) : Bool := decide (sc.N[i]? = some x) && (match sc.kd x with | some .local => true | some .cell => sc.fnl | _ => false)
theorem chkLoc_ok {sc : SC} {X : Cx} {i : Nat} {x : Str} (h : chkLoc sc i x = true) (k : XOk sc X) : X.N[i]? = some x ∧ L2.Loc X.env.scope x ∧ (X.fn x = true ∨ X.env.scope.names.lookup x = some .local) := by
  obtain ⟨h1, h2⟩ := and3 h
  refine ⟨by rw [k.N]; exact of_decide_eq_true h1, ?_⟩
  unfold L2.Loc
  rw [k.kd x]
  cases e : sc.kd x with
  | none => rw [e] at h2; cases h2
  | some kk =>
    rw [e] at h2
    cases kk <;> first | exact ⟨.inl rfl, .inr rfl⟩ | exact ⟨.inr rfl, .inl (k.fnl h2 x)⟩ | cases h2
theorem wipe_set (σ : St) (i : Nat) (x : Option V) : ∀ vs : List Nat, i ∈ vs → wipe (σ.set i x) vs = wipe σ vs
  | [], h => by cases h
  | j :: vs, h => by
    unfold wipe
    by_cases e : i ∈ vs
    · rw [wipe_set σ i x vs e]
    · have hj : i = j := (List.mem_cons.mp h).resolve_right e
      subst hj
      have key : ∀ ws : List Nat, i ∉ ws → wipe (σ.set i x) ws = (wipe σ ws).set i x := by
        intro ws hw
        induction ws with
        | nil => rfl
        | cons w ws ih =>
          unfold wipe
          rw [ih fun z => hw (List.mem_cons_of_mem _ z)]
          rw [List.set_comm]
          intro z; exact hw (z ▸ List.mem_cons_self)
      rw [key vs e, List.set_set]
def CG.name (i : Nat) : CG where
  slots := [i]
  chk sc e := match e with | .Name x _ => chkLoc sc i x && !(sc.ow.contains i) | _ => false
  asg d env := some (env.set i (some d))
  sound sc X e hc k := by
    split at hc
    · obtain ⟨h1, h2⟩ := and3 hc
      obtain ⟨g1, g2, g3⟩ := chkLoc_ok h1 k
      refine ⟨fun pins s σ H v u Q I r h => (pg_name k.nd g1 g2 g3).run pins s σ H v u Q I r ?_⟩
      obtain ⟨f, L, G, env, d, R, rep, h⟩ := h
      exact h _ (R.set (by simpa using h2) rep) fun vs hv => wipe_set σ i _ vs (hv i (by simp))
    · cases hc
def asgL : List CG → List D → Env → Option Env
  | [], [], env => some env
  | g :: gs, d :: ds, env => (g.asg d env).bind fun e => asgL gs ds e
  | _, _, _ => none
def chkG (l : List CG) (sc : SC) (es : List Expr) : Bool := match l, es with
  | [], [] => true
  | g :: l, e :: es => notStar e && (g.chk sc e && chkG l sc es)
  | _, _ => false
def tGs (sc : SC) (K : Fg) (slots : List Nat) (asg : List D → Env → Option Env) : TGs := fun vs σ H Q => ∃ f L G env ds, Rel sc K f L G H σ env ∧ Reps K G ds vs ∧ match asg ds env with
  | some env' => ∀ σ', Rel sc K f L G H σ' env' → (∀ vs : List Nat, (∀ i ∈ slots, i ∈ vs) → wipe σ' vs = wipe σ vs) → Q σ' H
  | none => False
theorem notStar_asg {e : Expr} {es : List Expr} {env : PySem.Env} (h : notStar e = true) : (assignEach (e :: es) env).map (·.2) = assign e env :: (assignEach es env).map (·.2) := by
  cases e <;> first | rfl | cases h
theorem pgs_all {sc : SC} {X : Cx} (k : XOk sc X) : ∀ (l : List CG) (es : List Expr), chkG l sc es = true → PGs X es (tGs sc X.K (l.flatMap (·.slots)) (asgL l))
  | [], es, h => by
    cases es with
    | cons _ _ => cases h
    | nil =>
      refine ⟨fun pins s σ H vs us Q I r h => pgs_nil.run pins s σ H vs us Q I r ?_⟩
      obtain ⟨f, L, G, env, ds, R, rr, h⟩ := h
      cases ds with
      | cons _ _ => exact h.elim
      | nil => exact ⟨rr, h σ R fun _ _ => rfl⟩
  | g :: l, es, h => by
    cases es with
    | nil => cases h
    | cons e es =>
      obtain ⟨h1, h⟩ := and3 h
      obtain ⟨h2, h3⟩ := and3 h
      refine ⟨fun pins s σ H vs us Q I r h => (pgs_cons (g.sound sc X e h2 k) (pgs_all k l es h3) (notStar_asg h1)).run pins s σ H vs us Q I r ?_⟩
      obtain ⟨f, L, G, env, ds, R, rr, h⟩ := h
      cases ds with
      | nil => exact h.elim
      | cons d ds =>
        obtain ⟨x, t, rfl, r1, r2⟩ := rr
        refine ⟨x, t, rfl, f, L, G, env, d, R, r1, ?_⟩
        show match g.asg d env with | some env' => _ | none => False
        have h : match (g.asg d env).bind fun e => asgL l ds e with
          | some env' => ∀ σ', Rel sc X.K f L G H σ' env' → (∀ vs : List Nat, (∀ i ∈ (g :: l).flatMap (·.slots), i ∈ vs) → wipe σ' vs = wipe σ vs) → Q σ' H
          | none => False := h
        cases e1 : g.asg d env with
        | none => rw [e1] at h; exact h.elim
        | some env1 =>
          rw [e1] at h
          intro σ1 R1 w1
          refine ⟨f, L, G, env1, ds, R1, r2, ?_⟩
          show match asgL l ds env1 with | some env' => _ | none => False
          simp only [Option.bind_some] at h
          cases e2 : asgL l ds env1 with
          | none => rw [e2] at h; exact h.elim
          | some env2 =>
            rw [e2] at h
            intro σ2 R2 w2
            refine h σ2 R2 fun vs hv => ?_
            rw [w2 vs fun i hi => hv i (by rw [List.flatMap_cons]; exact List.mem_append_right _ hi), w1 vs fun i hi => hv i (by rw [List.flatMap_cons]; exact List.mem_append_left _ hi)]
theorem chkG_star : ∀ {l : List CG} {sc : SC} {es : List Expr} {env : PySem.Env}, chkG l sc es = true → (assignEach es env).findIdx? (·.1) = none ∧ (assignEach es env).length = l.length
  | [], sc, es, env, h => by
    cases es with
    | nil => exact ⟨rfl, rfl⟩
    | cons _ _ => cases h
  | g :: l, sc, es, env, h => by
    cases es with
    | nil => cases h
    | cons e es =>
      obtain ⟨h1, h⟩ := and3 h
      obtain ⟨h2, h3⟩ := and3 h
      obtain ⟨i1, i2⟩ := chkG_star (env := env) h3
      have e1 : assignEach (e :: es) env = (false, assign e env) :: assignEach es env := by cases e <;> first | rfl | cases h1
      rw [e1, List.findIdx?_cons, i1]
      exact ⟨rfl, by rw [List.length_cons, List.length_cons, i2]⟩
def CG.tup (l : List CG) : CG where
  slots := l.flatMap (·.slots)
  chk sc e := match e with | .Tuple es _ _ => sc.calm && chkG l sc es | _ => false
  asg d env := match d with
    | .tup ds => if ds.length = l.length then asgL l ds env else none
    | .lst ds => if ds.length = l.length then asgL l ds env else none
    | _ => none
  sound sc X e hc k := by
    split at hc
    · obtain ⟨h1, h2⟩ := and3 hc
      obtain ⟨st, ln⟩ := chkG_star (env := X.env) h2
      have hcalm : X.calm = true := k.calm.trans h1
      refine ⟨fun pins s σ H v u Q I r h => ?_⟩
      obtain ⟨f, L, G, env, d, R, rep, h⟩ := h
      have w := R.vw (bor := none) rep
      cases d with
      | tup ds =>
        obtain ⟨a, xs, rfl, hx, rr⟩ := w.tup
        by_cases hl : ds.length = l.length
        · simp only [if_pos hl] at h
          exact (pg_tup hcalm (pgs_all k l _ h2) rfl st).run pins s σ H _ u Q I r ⟨a, xs, rfl, hx, by rw [ln, ← rr.length]; exact hl, f, L, G, env, ds, R, rr, h⟩
        · simp only [if_neg hl] at h
      | lst ds =>
        obtain ⟨a, xs, rfl, hx, rr⟩ := w.lst
        by_cases hl : ds.length = l.length
        · simp only [if_pos hl] at h
          exact (pg_unl hcalm (pgs_all k l _ h2) rfl st).run pins s σ H _ u Q I r ⟨a, xs, rfl, SqL.of hx, by rw [ln, ← rr.length]; exact hl, f, L, G, env, ds, R, rr, h⟩
        · simp only [if_neg hl] at h
      | _ => exact h.elim
    · cases hc
/-! ### statements -/
def noComp : Expr → Bool
  | .ListComp _ _ _ _ => false
  | .SetComp _ _ _ _ => false
  | .DictComp _ _ _ _ _ => false
  | _ => true
theorem noComp_ok {e : Expr} {t : Option Expr} {l : Nat} {env : PySem.Env} (h : noComp e = true) : swapsWith e t l env = pure false := by
  cases e <;> first | rfl | cases h
def CS.ret (c : CE) : CS where
  chk sc e := match e with | .Return (some x) _ => c.bor.isNone && (!sc.fr && c.chk sc x) | _ => false
  req := c.req
  ev env := (c.ev env).bindS fun d e => .rt d e
  sound sc X e W hc k q tk _ := by
    split at hc
    · obtain ⟨h1, h⟩ := and3 hc
      obtain ⟨h2, h3⟩ := and3 h
      refine (ps_ret (c.sound sc X _ W h3 k q tk)).imp fun D σ H h => ?_
      have hb : c.bor = none := by simpa using h1
      have hf : sc.fr = false := by simpa using h2
      obtain ⟨fx, L, G, env, R, h⟩ := h
      refine ⟨fx, L, G, env, R, ER.post_mono (ER.post_bindS h) (fun d e1 _ h v H1 G1 R1 s1 r1 => ?_) (XWs.at σ)⟩
      rw [hb] at r1
      exact h v σ H1 G1 R1 s1 (by unfold RtRel; rw [if_neg (by rw [hf]; exact Bool.false_ne_true)]; exact r1)
    · cases hc
def CS.retF (c : CF) : CS where
  chk sc e := match e with | .Return (some x) _ => sc.fr && c.chk sc x | _ => false
  req := c.req
  ev env := (c.ev env).bindS fun d e => .rt d e
  sound sc X e W hc k q tk _ := by
    split at hc
    · obtain ⟨h1, h2⟩ := and3 hc
      refine (ps_ret (c.sound sc X _ W h2 k q tk)).imp fun D σ H h => ?_
      obtain ⟨fx, L, G, env, R, h⟩ := h
      refine ⟨fx, L, G, env, R, ER.post_mono (ER.post_bindS h) (fun d e1 _ h v H1 G1 R1 s1 r1 => ?_) (XWs.at σ)⟩
      exact h v σ H1 G1 R1 s1 (by unfold RtRel; rw [if_pos h1]; exact r1)
    · cases hc
def CS.expr (c : CE) : CS where
  chk sc e := match e with | .Expr x _ => noComp x && c.chk sc x | _ => false
  req := c.req
  ev env := (c.ev env).bindS fun d e => .nx e
  sound sc X e W hc k q tk _ := by
    split at hc
    · obtain ⟨h1, h2⟩ := and3 hc
      refine (ps_expr (c.sound sc X _ W h2 k q tk) (noComp_ok h1)).imp fun D σ H h => ?_
      obtain ⟨fx, L, G, env, R, h⟩ := h
      exact ⟨fx, L, G, env, R, ER.post_mono (ER.post_bindS h) (fun d e1 _ h v H1 G1 R1 s1 r1 => h σ H1 G1 R1 s1) (XWs.at σ)⟩
    · cases hc
def CS.pass : CS where
  chk sc e := match e with | .Pass _ => true | _ => false
  req _ := True
  ev env := .nx env
  sound sc X e W hc k q tk _ := by
    split at hc
    · refine ps_pass.imp fun D σ H h => ?_
      obtain ⟨fx, L, G, env, R, h⟩ := h
      exact h σ H G R (Same.refl _)
    · cases hc
def CS.brk : CS where
  chk sc e := match e with | .Break _ => true | _ => false
  req _ := True
  ev env := .bk env
  sound sc X e W hc k q tk _ := by
    split at hc
    · refine ps_break.imp fun D σ H h => ?_
      obtain ⟨fx, L, G, env, R, h⟩ := h
      exact h σ H G R (Same.refl _)
    · cases hc
def CS.cont : CS where
  chk sc e := match e with | .Continue _ => true | _ => false
  req _ := True
  ev env := .ct env
  sound sc X e W hc k q tk _ := by
    split at hc
    · refine ps_continue.imp fun D σ H h => ?_
      obtain ⟨fx, L, G, env, R, h⟩ := h
      exact h σ H G R (Same.refl _)
    · cases hc
/-- code that is never come to -/
def CS.never : CS where
  chk _ _ := true
  req _ := True
  ev _ := .bad
  sound sc X e W hc k q tk _ := ps_never.imp fun D σ H h => by
    obtain ⟨fx, L, G, env, R, h⟩ := h
    exact h
def notTuple : Expr → Bool
  | .Tuple _ _ _ => false
  | _ => true
theorem notTuple_ok {tg e : Expr} {env : PySem.Env} (h : notTuple e = true) : swappedStores [tg] e env = pure none := by
  cases tg <;> cases e <;> first | rfl | cases h
/-- target = value -/
def CS.asg (g : CG) (c : CE) : CS where
  chk sc e := match e with | .Assign [t] x _ => c.bor.isNone && (notStar t && (noComp x && ((notTuple x || (match t with | .Name _ _ => true | _ => false)) && (g.chk sc t && c.chk sc x)))) | _ => false
  req := c.req
  ev env := (c.ev env).bindS fun d e => match g.asg d e with | some e' => .nx e' | none => .bad
  sound sc X e W hc k q tk _ := by
    split at hc
    · rename_i t x pos
      obtain ⟨h1, h⟩ := and3 hc
      obtain ⟨h0, h⟩ := and3 h
      obtain ⟨h2, h⟩ := and3 h
      obtain ⟨h3, h⟩ := and3 h
      obtain ⟨h4, h5⟩ := and3 h
      have hw : swappedStores [t] x X.env = pure none := by
        rcases Bool.or_eq_true_iff.mp h3 with z | z
        · exact notTuple_ok z
        · cases t <;> first | rfl | cases z
      refine (ps_asg (c.sound sc X _ W h5 k q tk) (g.sound sc X _ h4 k) (noComp_ok h2) hw (notStar_asg h0)).imp fun D σ H h => ?_
      have hb : c.bor = none := by simpa using h1
      obtain ⟨fx, L, G, env, R, h⟩ := h
      refine ⟨fx, L, G, env, R, ER.post_mono (ER.post_bindS h) (fun d e1 _ h v H1 G1 R1 s1 r1 => ?_) (XWs.at σ)⟩
      rw [hb] at r1
      refine ⟨fx, L, G1, e1, d, R1, r1, ?_⟩
      cases ea : g.asg d e1 with
      | none => rw [ea] at h; exact h
      | some e2 =>
        rw [ea] at h
        exact fun σ' R2 _ => h σ' H1 G1 R2 s1
    · cases hc
/-- name = a new object -/
def CS.setF (i : Nat) (c : CF) : CS where
  chk sc e := match e with | .Assign [.Name x _] v _ => noComp v && (chkLoc sc i x && (sc.ow.contains i && (!(sc.rp.contains i) && c.chk sc v))) | _ => false
  req := c.req
  ev env := (c.ev env).bindS fun d e => .nx (e.set i (some d))
  sound sc X e W hc k q tk _ := by
    split at hc
    · obtain ⟨h1, h⟩ := and3 hc
      obtain ⟨h2, h⟩ := and3 h
      obtain ⟨h3, h⟩ := and3 h
      obtain ⟨h4, h5⟩ := and3 h
      obtain ⟨g1, g2, g3⟩ := chkLoc_ok h2 k
      refine (ps_set k.nd g1 g2 (c.sound sc X _ W h5 k q tk) (noComp_ok h1) g3).imp fun D σ H h => ?_
      obtain ⟨fx, L, G, env, R, h⟩ := h
      refine ⟨fx, L, G, env, R, ER.post_mono (ER.post_bindS h) (fun d e1 _ h v H1 G1 R1 s1 r1 => ?_) (XWs.at σ)⟩
      exact h _ H1 G1 (R1.setF (by simpa using h3) (by simpa using h4) r1) s1
    · cases hc
/-! ### blocks -/
def CB.nil : CB where
  chk _ es := match es with | [] => true | _ => false
  req _ := True
  ev env := .nx env
  sound sc X e W hc k q tk _ := by
    split at hc
    · refine pss_nil.imp fun D σ H h => ?_
      obtain ⟨fx, L, G, env, R, h⟩ := h
      exact h σ H G R (Same.refl _)
    · cases hc
def SR.seq (r : SR) (k : Env → SR) : SR := match r with | .nx e => k e | r => r
theorem SR.post_seq {r : SR} {k : Env → SR} {w : Wn} (h : (r.seq k).post w) : r.post { w with nx := fun e => (k e).post w } := by cases r <;> exact h
def CB.cons (s : CS) (b : CB) : CB where
  chk sc es := match es with | e :: es => s.chk sc e && b.chk sc es | _ => false
  req r := s.req r ∧ b.req r
  ev env := (s.ev env).seq b.ev
  sound sc X e W hc k q tk pw := by
    split at hc
    · obtain ⟨h1, h2⟩ := and3 hc
      refine (pss_cons (s.sound sc X _ W h1 k q.1 tk pw) (b.sound sc X _ W h2 k q.2 tk pw)).imp fun D σ H h => ?_
      obtain ⟨fx, L, G, env, R, h⟩ := h
      refine ⟨fx, L, G, env, R, SR.post_mono (SR.post_seq h) (fun e1 _ h σ' H' G' R' s' => ?_) (fun _ _ h => h) (fun _ h => h) (fun _ h => h) fun _ _ _ h => h⟩
      exact ⟨fx, L, G', e1, R', wnS_mono s' h⟩
    · cases hc
/-- the rest of a block is never come to -/
def CB.never : CB where
  chk _ _ := true
  req _ := True
  ev _ := .bad
  sound sc X e W hc k q tk _ := pss_never.imp fun D σ H h => by
    obtain ⟨fx, L, G, env, R, h⟩ := h
    exact h
def CS.if_ (t : CT) (a b : CB) : CS where
  chk sc e := match e with | .If c x y _ => t.chk sc c && (a.chk sc x && b.chk sc y) | _ => false
  req r := t.req r ∧ a.req r ∧ b.req r
  ev env := (t.ev env).bindS fun c e => if c = true then a.ev e else b.ev e
  sound sc X e W hc k q tk pw := by
    split at hc
    · obtain ⟨h1, h⟩ := and3 hc
      obtain ⟨h2, h3⟩ := and3 h
      refine (ps_if (t.sound sc X _ W h1 k q.1 tk) (a.sound sc X _ W h2 k q.2.1 tk pw) (b.sound sc X _ W h3 k q.2.2 tk pw)).imp fun D σ H h => ?_
      obtain ⟨fx, L, G, env, R, h⟩ := h
      refine ⟨fx, L, G, env, R, TR.post_mono (TR.post_bindS h) (fun c e1 _ h H1 G1 R1 s1 => ?_) (XWs.at σ)⟩
      cases c with
      | true => exact iteT ⟨fx, L, G1, e1, R1, wnS_mono s1 h⟩
      | false => exact iteF ⟨fx, L, G1, e1, R1, wnS_mono s1 h⟩
    · cases hc
/-! ### while -/
def whileE (t : Env → TR) (b : Env → SR) : Nat → Env → SR
  | 0, _ => .bad
  | n + 1, env => (t env).bindS fun c e => if c = true then (match b e with
      | .nx e | .ct e => whileE t b n e
      | .bk e => .nx e
      | r => r) else .nx e
def CS.while_ (n : Nat) (t : CT) (b : CB) : CS where
  chk sc e := match e with | .While c x [] _ => t.chk sc c && b.chk sc x | _ => false
  req r := t.req r ∧ b.req r
  ev := whileE t.ev b.ev n
  sound sc X e W hc k q tk pw := by
    split at hc
    · obtain ⟨h1, h2⟩ := and3 hc
      refine (ps_while pw (t.sound sc X _ W h1 k q.1 tk) (b.sound sc X _ W h2 k q.2 tk pw)).imp fun D σ H h => ?_
      obtain ⟨fx, L, G, env, R, h⟩ := h
      refine ⟨fun m σ H => ∃ G1 e1, Rel sc X.K fx L G1 H σ e1 ∧ Same G G1 ∧ (whileE t.ev b.ev m e1).post (wnS sc X.K fx L G1 W D), ⟨n, G, env, R, Same.refl _, h⟩, ?_⟩
      rintro m σ1 H1 ⟨G1, e1, R1, s1, h⟩
      cases m with
      | zero => exact h.elim
      | succ m =>
        refine ⟨fx, L, G1, e1, R1, TR.post_mono (TR.post_bindS h) (fun c e2 _ h H2 G2 R2 s2 => ?_) (XWs.at σ1)⟩
        cases c with
        | false => exact iteF (h σ1 H2 G2 R2 s2)
        | true =>
          refine iteT ⟨fun σ' H' => ∃ G3 e3, Rel sc X.K fx L G3 H' σ' e3 ∧ Same G G3 ∧ (whileE t.ev b.ev m e3).post (wnS sc X.K fx L G3 W D), fun σ' H' z => ⟨m, Nat.lt_succ_self m, z⟩, fx, L, G2, e2, R2, ?_⟩
          have h' : (match b.ev e2 with
            | .nx e | .ct e => whileE t.ev b.ev m e
            | .bk e => .nx e
            | r => r).post (wnS sc X.K fx L G1 W D) := h
          cases eb : b.ev e2 with
          | nx e3 => rw [eb] at h'; exact fun σ3 H3 G3 R3 s3 => ⟨G3, e3, R3, (s1.trans s2).trans s3, wnS_mono (s2.trans s3) h'⟩
          | ct e3 => rw [eb] at h'; exact fun σ3 H3 G3 R3 s3 => ⟨G3, e3, R3, (s1.trans s2).trans s3, wnS_mono (s2.trans s3) h'⟩
          | bk e3 => rw [eb] at h'; exact fun σ3 H3 G3 R3 s3 => h' σ3 H3 G3 R3 (s2.trans s3)
          | rt d e3 => rw [eb] at h'; exact fun v σ3 H3 G3 R3 s3 r => h' v σ3 H3 G3 R3 (s2.trans s3) r
          | exc c fs e3 => rw [eb] at h'; exact XWs.mono s2 c fs e3 h'
          | bad => rw [eb] at h'; exact h'
    · cases hc
/-! ### for -/
def iterD : D → Option (List D)
  | .lst l => some l
  | .tup l => some l
  | .str z => some (z.cps.toList.map fun c => .str ⟨#[c]⟩)
  | _ => none
def forE (g : D → Env → Option Env) (b : Env → SR) : List D → Env → SR
  | [], env => .nx env
  | x :: l, env => match g x env with
    | none => .bad
    | some e => match b e with
      | .nx e | .ct e => forE g b l e
      | .bk e => .nx e
      | r => r
end C

set_option maxRecDepth 100000
set_option maxHeartbeats 4000000
namespace C
open PySem L2
/-! ### what is walked -/
/-- J yields the things ds, whatever comes to G -/
def Walks (K : Fg) (J : It) (G : Hp) (ds : List D) : Prop := ∀ G' H', Same G G' → Le G' H' →
  (∀ i d, ds[i]? = some d → J.go i H' ∧ ∀ x H'', J.yld i H' x H'' → ∃ G'', Nw G' G'' H' H'' ∧ Rep K G'' d x) ∧ ∀ i, ds.length ≤ i → J.stop i H'
def tI (sc : SC) (K : Fg) (ev : Env → AR) (W : WX) : TI := fun σ H R => ∃ f L G env, Rel sc K f L G H σ env ∧
  (ev env).post (fun ds env' => ∀ J H' G', Rel sc K f L G' H' σ env' → Same G G' → Walks K J G' ds → R J H') (XW sc K f L G σ W)
structure CI where
  chk : SC → Expr → Bool
  req : Rq → Prop
  ev : Env → AR
  sound : ∀ sc X tg e W, chk sc e = true → XOk sc X → req (rq X) → Takes X W → PI X tg e (tI sc X.K ev W)
theorem _root_.L2.PI.imp {X : Cx} {tg e : Expr} {t t' : TI} (h : PI X tg e t) (k : ∀ σ H Q, t' σ H Q → t σ H Q) : PI X tg e t' := ⟨fun pins s σ H Q I q => h.run pins s σ H Q I (k σ H Q q)⟩
/-- a list, a tuple, a text: by what the value is -/
def SeqJ (K : Fg) (H : Hp) (x : V) (J : It) : Prop :=
  (∃ a xs, x = .ref a ∧ SqL K H a xs ∧ J = Itl K a) ∨ (∃ a xs, x = .ref a ∧ SqT K H a xs ∧ J = Itt K a) ∨ ∃ z, x = .str z ∧ J = Its z
theorem pi_seq {X : Cx} {tg e : Expr} {te : TE} (he : PE X e te) : PI X tg e (fun σ H R => te σ H fun x H1 => ∃ J, SeqJ X.K H1 x J ∧ R J H1) := by
  refine ⟨fun pins s σ H R I h => ?_⟩
  refine thn (he.run pins s σ H _ I h) fun v s1 z => ?_
  obtain ⟨x, H1, I1, rx, J, hJ, q⟩ := z
  have room : ∀ b, b ∈ [s1.heap.objs.size] → FpOk X pins H1 b := fun b hb => by
    rw [List.mem_singleton.mp hb]
    exact I1.fpOk (Nat.le_refl _) (I1.hok.fresh (Nat.le_refl _))
  rcases hJ with ⟨a, xs, rfl, hx, rfl⟩ | ⟨a, xs, rfl, hx, rfl⟩ | ⟨z, rfl, rfl⟩
  · cases rx
    obtain ⟨its, _, pl, _⟩ := I1.list hx
    exact wpAny_pyIter_list pl.isList ⟨_, [_], _, _, H1, rfl, I1.kept (t' := s1.toks) (fun b o e => Heap.get?_push_of_some _ e), turn_list a _, ⟨_, Heap.get?_push_size _ rfl, rfl, rfl⟩, room, q⟩
  · cases rx
    obtain ⟨its, _, pl, _⟩ := I1.tuple hx
    exact wpAny_pyIter_tuple (show s1.heap.IsTuple a its.toArray from pl) ⟨_, [_], _, _, H1, rfl, I1.kept (t' := s1.toks) (fun b o e => Heap.get?_push_of_some _ e), turn_tuple a _, ⟨_, Heap.get?_push_size _ rfl, rfl, rfl⟩, room, q⟩
  · obtain ⟨t, rfl⟩ := rx
    by_cases ha : z.cps.all (· < 128) = true
    · exact wpAny_pyIter_ascii ha (pi_one (tk := s1.toks) I1 _ (turn_str _ z t "str_ascii_iterator" (.inl rfl)) ⟨_, Heap.get?_push_size _ rfl, rfl, rfl⟩ q)
    · exact wpAny_pyIter_wide (by simpa using ha) (pi_one (tk := s1.toks) I1 _ (turn_str _ z t "str_iterator" (.inr rfl)) ⟨_, Heap.get?_push_size _ rfl, rfl, rfl⟩ q)
theorem walks_lst {K : Fg} {G : Hp} {a : Addr} {xs : List V} {l : List D} (h : G a = some (.lst xs)) (r : Reps K G l xs) : Walks K (Itl K a) G l := fun G' H' s le => by
  have hx : SqL K H' a xs := SqL.of (le.ex _ _ (notD_lst _) (s _ _ h))
  refine ⟨fun i d e => ?_, fun i hi => ⟨xs, hx, by rw [← r.length]; exact hi⟩⟩
  obtain ⟨v, e1, e2⟩ := r.at e
  refine ⟨⟨xs, v, hx, e1⟩, fun x H'' z => ?_⟩
  obtain ⟨rfl, z⟩ := z
  have := z xs hx
  rw [e1] at this
  cases this
  exact ⟨G', Nw.refl _ _, Rep.mono (Le.of_same s) _ _ e2⟩
theorem walks_tup {K : Fg} {G : Hp} {a : Addr} {xs : List V} {l : List D} (h : G a = some (.tup xs) ∨ (xs = [] ∧ SqT K G a xs)) (r : Reps K G l xs) : Walks K (Itt K a) G l := fun G' H' s le => by
  have hx : SqT K H' a xs := h.elim (fun h => SqT.of (le.ex _ _ (notD_tup _) (s _ _ h))) fun z => le.sqT ((Le.of_same s).sqT z.2)
  refine ⟨fun i d e => ?_, fun i hi => ⟨xs, hx, by rw [← r.length]; exact hi⟩⟩
  obtain ⟨v, e1, e2⟩ := r.at e
  refine ⟨⟨xs, v, hx, e1⟩, fun x H'' z => ?_⟩
  obtain ⟨rfl, z⟩ := z
  have := z xs hx
  rw [e1] at this
  cases this
  exact ⟨G', Nw.refl _ _, Rep.mono (Le.of_same s) _ _ e2⟩
theorem walks_str {K : Fg} {G : Hp} (z : Str) : Walks K (Its z) G (z.cps.toList.map fun c => D.str ⟨#[c]⟩) := fun G' H' s le => by
  refine ⟨fun i d e => ?_, fun i hi => (show z.cps.size ≤ i by simpa using hi)⟩
  rw [List.getElem?_map, Array.getElem?_toList] at e
  cases ec : z.cps[i]? with
  | none => rw [ec] at e; cases e
  | some c =>
    rw [ec] at e
    cases e
    refine ⟨(Array.getElem?_eq_some_iff.mp ec).1, fun x H'' q => ?_⟩
    obtain ⟨rfl, c', e1, rfl⟩ := q
    rw [ec] at e1
    cases e1
    exact ⟨G', Nw.refl _ _, rfl⟩
def CI.seq (c : CE) : CI where
  chk sc e := c.bor.isNone && c.chk sc e
  req := c.req
  ev env := (c.ev env).bindA fun d e => match iterD d with | some l => .ok l e | none => .bad
  sound sc X tg e W hc k q tk := by
    obtain ⟨h1, h2⟩ := and3 hc
    have hb : c.bor = none := by simpa using h1
    refine (pi_seq (c.sound sc X e W h2 k q tk)).imp fun σ H R0 h => ?_
    obtain ⟨fx, L, G, env, R, h⟩ := h
    refine ⟨fx, L, G, env, R, ER.post_mono (ER.post_bindA h) (fun d e1 _ h v H1 G1 R1 s1 r1 => ?_) fun _ _ _ h => h⟩
    rw [hb] at r1
    cases d with
    | lst l =>
      obtain ⟨a, xs, rfl, hx, rr⟩ := r1
      exact ⟨_, .inl ⟨a, xs, rfl, SqL.of (R1.le.ex _ _ (notD_lst _) hx), rfl⟩, h _ H1 G1 R1 s1 (walks_lst hx rr)⟩
    | tup l =>
      obtain ⟨a, xs, rfl, hx, rr⟩ := id r1
      obtain ⟨a', xs', e1, hx', _⟩ := (R1.vw (bor := none) r1).tup
      cases e1
      exact ⟨_, .inr (.inl ⟨a, xs', rfl, hx', rfl⟩), h _ H1 G1 R1 s1 (walks_tup hx rr)⟩
    | str z =>
      have : v = .str z := r1
      exact ⟨_, .inr (.inr ⟨z, this, rfl⟩), h _ H1 G1 R1 s1 (walks_str z)⟩
    | _ => exact h.elim
/-! ### range -/
def rangeD (lo hi : Int) : List D := (List.range (hi - lo).toNat).map fun (k : Nat) => D.int (lo + (k : Int))
theorem walks_rng {K : Fg} {G : Hp} (lo : Int) (n : Nat) : Walks K (Itr lo n) G ((List.range n).map fun (k : Nat) => D.int (lo + (k : Int))) := fun G' H' s le => by
  refine ⟨fun i d e => ?_, fun i hi => (show n ≤ i by simpa using hi)⟩
  rw [List.getElem?_map] at e
  by_cases hi : i < n
  · rw [List.getElem?_range hi] at e
    cases e
    refine ⟨hi, fun x H'' q => ?_⟩
    obtain ⟨rfl, rfl⟩ := q
    exact ⟨G', Nw.refl _ _, rfl⟩
  · rw [List.getElem?_eq_none (by simpa using hi)] at e
    cases e
def rgB (i : Int) : Bool := decide (-(2 ^ 62) ≤ i) && decide (i < 2 ^ 62)
def evR1 (ds : List D) (e : Env) : AR := match ds with
  | [.int j] => if rgB j then .ok (rangeD 0 j) e else .bad
  | [.int i, .int j] => if rgB i && rgB j then .ok (rangeD i j) e else .bad
  | _ => .bad
def chkGl (sc : SC) (x : Str) : Bool := decide (sc.kd x = some .globalImplicit)
theorem chkGl_ok {sc : SC} {X : Cx} {x : Str} (h : chkGl sc x = true) (k : XOk sc X) : Gl X x := by
  unfold Gl PySem.Env.kindOf
  rw [k.kd x]
  exact of_decide_eq_true h
def CI.range1 (a : CE) : CI where
  chk sc e := match e with | .Call (.Name x _) [y] [] _ => decide (x = "range") && (chkGl sc "range" && (notStar y && (a.bor.isNone && a.chk sc y))) | _ => false
  req r := r.mg "range" = none ∧ a.req r
  ev env := (a.ev env).bindA fun d e => evR1 [d] e
  sound sc X tg e W hc k q tk := by
    split at hc
    · rename_i x p y pos
      obtain ⟨h1, h⟩ := and3 hc
      obtain ⟨h2, h⟩ := and3 h
      obtain ⟨h3, h⟩ := and3 h
      obtain ⟨h4, h5⟩ := and3 h
      have ex : x = "range" := of_decide_eq_true h1
      subst ex
      have hb : a.bor = none := by simpa using h4
      refine (pi_range1 (chkGl_ok h2 k) q.1 (pa_cons (a.sound sc X y W h5 k q.2 tk) pa_nil (notStar_ok h3)) (notStar_ok h3)).imp fun σ H R0 h => ?_
      obtain ⟨fx, L, G, env, R, h⟩ := h
      refine ⟨fx, L, G, env, R, ER.post_mono (ER.post_bindA h) (fun d e1 _ h v H1 G1 R1 s1 r1 => ?_) fun _ _ _ h => h⟩
      rw [hb] at r1
      cases d with
      | int j =>
        have ev : v = .int j := r1
        subst ev
        unfold evR1 at h
        by_cases hj : rgB j = true
        · simp only [hj, if_true] at h
          refine ⟨j, rfl, of_decide_eq_true (and3 hj).1, of_decide_eq_true (and3 hj).2, h _ H1 G1 R1 s1 ?_⟩
          unfold rangeD
          rw [Int.sub_zero]
          exact walks_rng 0 _
        · simp only [hj] at h
          exact h.elim
      | _ => exact h.elim
    · cases hc
def CI.range2 (a b : CE) : CI where
  chk sc e := match e with | .Call (.Name x _) [y, z] [] _ => decide (x = "range") && (chkGl sc "range" && (notStar y && (notStar z && (a.bor.isNone && (b.bor.isNone && (a.chk sc y && b.chk sc z)))))) | _ => false
  req r := r.mg "range" = none ∧ a.req r ∧ b.req r
  ev env := (a.ev env).bindA fun d e => (b.ev e).bindA fun d2 e => evR1 [d, d2] e
  sound sc X tg e W hc k q tk := by
    split at hc
    · rename_i x p y z pos
      obtain ⟨h1, h⟩ := and3 hc
      obtain ⟨h2, h⟩ := and3 h
      obtain ⟨h3, h⟩ := and3 h
      obtain ⟨h4, h⟩ := and3 h
      obtain ⟨h5, h⟩ := and3 h
      obtain ⟨h6, h⟩ := and3 h
      obtain ⟨h7, h8⟩ := and3 h
      have ex : x = "range" := of_decide_eq_true h1
      subst ex
      have hb : a.bor = none := by simpa using h5
      have hb2 : b.bor = none := by simpa using h6
      have st : starEach [y, z] X.env = [(false, eval y X.env), (false, eval z X.env)] := (notStar_ok h3).trans (by rw [notStar_ok h4]; rfl)
      refine (pi_range2 (chkGl_ok h2 k) q.1 (pa_cons (a.sound sc X y W h7 k q.2.1 tk) (pa_cons (b.sound sc X z W h8 k q.2.2 tk) pa_nil (notStar_ok h4)) (notStar_ok h3)) st (notStar_ok h4)).imp fun σ H R0 h => ?_
      obtain ⟨fx, L, G, env, R, h⟩ := h
      refine ⟨fx, L, G, env, R, ER.post_mono (ER.post_bindA h) (fun d e1 _ h v H1 G1 R1 s1 r1 => ?_) fun _ _ _ h => h⟩
      rw [hb] at r1
      refine ⟨fx, L, G1, e1, R1, ER.post_mono (ER.post_bindA h) (fun d2 e2 _ h v2 H2 G2 R2 s2 r2 => ?_) (XW.mono s1)⟩
      rw [hb2] at r2
      cases d with
      | int i =>
        cases d2 with
        | int j =>
          have ev : v = .int i := r1
          subst ev
          have ev2 : v2 = .int j := r2
          subst ev2
          unfold evR1 at h
          by_cases hj : (rgB i && rgB j) = true
          · simp only [hj, if_true] at h
            obtain ⟨g1, g2⟩ := and3 hj
            exact ⟨i, j, rfl, ⟨of_decide_eq_true (and3 g1).1, of_decide_eq_true (and3 g1).2, of_decide_eq_true (and3 g2).1, of_decide_eq_true (and3 g2).2⟩, h _ H2 G2 R2 (s1.trans s2) (walks_rng i _)⟩
          · simp only [hj] at h
            exact h.elim
        | _ => exact h.elim
      | _ => exact h.elim
    · cases hc
/-! ### for -/
def AR.bindS (r : AR) (k : List D → Env → SR) : SR := match r with | .ok d e => k d e | .exc c fs e => .exc c fs e | .bad => .bad
theorem AR.post_bindS {r : AR} {k : List D → Env → SR} {w : Wn} (h : (r.bindS k).post w) : r.post (fun d e => (k d e).post w) w.ex := by cases r <;> exact h
def notSet : Expr → Bool
  | .Set _ _ _ => false
  | _ => true
theorem notSet_ok {e : Expr} {env : PySem.Env} (h : notSet e = true) (x : Value) : foldedSetIterable e env x = pure x := by
  cases e <;> first | rfl | cases h
theorem for_core {sc : SC} {K : Fg} {slots : List Nat} {g : D → Env → Option Env} {b : Env → SR} {fx : Fx} {L : List Addr} {G H : Hp} {σ : St} {env : Env} {W : WX} {D : Ends} {J : It} {ds : List C.D}
    (R : Rel sc K fx L G H σ env) (wk : Walks K J G ds) (h : (forE g b ds env).post (wnS sc K fx L G W D)) :
    ∃ W' : Nat → Nat → St → Hp → Prop, (∃ m, W' 0 m σ H) ∧ ∀ i m σ H, W' i m σ H → (J.stop i H ∧ D.nx σ H) ∨ (J.go i H ∧ ∃ N : St → Hp → Prop, (∀ σ' H', N σ' H' → ∃ m', m' < m ∧ W' (i + 1) m' σ' H') ∧ ∀ x H', J.yld i H x H' → (tG sc K slots g) x σ H' fun σ2 H2 => (tS sc K b W) { D with nx := N, ct := N, bk := D.nx } σ2 H2) := by
  refine ⟨fun i m σ H => m + i = ds.length ∧ ∃ G1 e1, Rel sc K fx L G1 H σ e1 ∧ Same G G1 ∧ (forE g b (ds.drop i) e1).post (wnS sc K fx L G1 W D), ⟨ds.length, rfl, G, env, R, Same.refl _, h⟩, ?_⟩
  rintro i m σ1 H1 ⟨hm, G1, e1, R1, s1, h⟩
  obtain ⟨go, st⟩ := wk G1 H1 s1 R1.le
  cases e : ds[i]? with
  | none =>
    have hl : ds.length ≤ i := List.getElem?_eq_none_iff.mp e
    rw [List.drop_eq_nil_of_le hl] at h
    exact .inl ⟨st i hl, h σ1 H1 G1 R1 (Same.refl _)⟩
  | some d =>
    have hl : i < ds.length := (List.getElem?_eq_some_iff.mp e).1
    obtain ⟨g1, g2⟩ := go i d e
    have ed : ds.drop i = d :: ds.drop (i + 1) := by
      rw [List.drop_eq_getElem_cons hl, (List.getElem?_eq_some_iff.mp e).2]
    rw [ed] at h
    refine .inr ⟨g1, fun σ' H' => ∃ G3 e3, Rel sc K fx L G3 H' σ' e3 ∧ Same G G3 ∧ (forE g b (ds.drop (i + 1)) e3).post (wnS sc K fx L G3 W D), fun σ' H' z => ⟨m - 1, by omega, by omega, z⟩, fun x H2 y => ?_⟩
    obtain ⟨G2, nw, rx⟩ := g2 x H2 y
    have R2 := R1.grow nw.1 nw.2.1 nw.2.2.1 (nw.2.2.2 R1.tab.g)
    have s2 := nw.2.1
    refine ⟨fx, L, G2, e1, d, R2, rx, ?_⟩
    unfold forE at h
    cases eg : g d e1 with
    | none => rw [eg] at h; exact h
    | some e2 =>
      simp only [eg] at h
      intro σ2 R3 _
      refine ⟨fx, L, G2, e2, R3, ?_⟩
      cases eb : b e2 with
      | nx e3 => rw [eb] at h; exact fun σ3 H3 G3 R3 s3 => ⟨G3, e3, R3, (s1.trans s2).trans s3, wnS_mono (s2.trans s3) h⟩
      | ct e3 => rw [eb] at h; exact fun σ3 H3 G3 R3 s3 => ⟨G3, e3, R3, (s1.trans s2).trans s3, wnS_mono (s2.trans s3) h⟩
      | bk e3 => rw [eb] at h; exact fun σ3 H3 G3 R3 s3 => h σ3 H3 G3 R3 (s2.trans s3)
      | rt d e3 => rw [eb] at h; exact fun v σ3 H3 G3 R3 s3 r => h v σ3 H3 G3 R3 (s2.trans s3) r
      | exc c fs e3 => rw [eb] at h; exact XWs.mono s2 c fs e3 h
      | bad => rw [eb] at h; exact h
def CS.for_ (g : CG) (c : CI) (b : CB) : CS where
  chk sc e := match e with | .For t x y [] _ => sc.calm && (notSet x && (g.chk sc t && (c.chk sc x && b.chk sc y))) | _ => false
  req r := c.req r ∧ b.req r
  ev env := (c.ev env).bindS fun ds e => forE g.asg b.ev ds e
  sound sc X e W hc k q tk pw := by
    split at hc
    · rename_i t x y pos
      obtain ⟨h1, h⟩ := and3 hc
      obtain ⟨h2, h⟩ := and3 h
      obtain ⟨h3, h⟩ := and3 h
      obtain ⟨h4, h5⟩ := and3 h
      refine (ps_for pw (k.calm.trans h1) (c.sound sc X t x W h4 k q.1 tk) (g.sound sc X t h3 k) (b.sound sc X y W h5 k q.2 tk pw) (notSet_ok h2)).imp fun D σ H h => ?_
      obtain ⟨fx, L, G, env, R, h⟩ := h
      exact ⟨fx, L, G, env, R, AR.post_mono (AR.post_bindS h) (fun ds e1 _ h J H1 G1 R1 s1 wk => for_core R1 wk (wnS_mono s1 h)) (XWs.at σ)⟩
    · cases hc
end C

set_option maxRecDepth 100000
set_option maxHeartbeats 4000000
namespace C
open PySem L2
/-! ### what a def promises, over plain data -/
def refAddr (vs : List V) (rf : List Nat) (a : Addr) : Prop := ∃ p ∈ rf, vs[p]? = some (.ref a)
structure ArgsOk (K : Fg) (rf : List Nat) (G H : Hp) (ds : List D) (vs : List V) : Prop where
  len : ds.length = vs.length
  val : ∀ i d, i ∉ rf → ds[i]? = some d → ∃ v, vs[i]? = some v ∧ Rep K G d v
  ref : ∀ i d, i ∈ rf → ds[i]? = some d → ∃ a o, vs[i]? = some (.ref a) ∧ H a = some o ∧ ORep K G d o ∧ G a = none
  dis : ∀ i j a, i ∈ rf → j ∈ rf → vs[i]? = some (.ref a) → vs[j]? = some (.ref a) → i = j
  tabs : LamX.Tabs (lamT K) H
  ntb : noTb G
structure OutOk (K : Fg) (rf : List Nat) (G H : Hp) (vs : List V) (G' H' : Hp) (os : List D) : Prop where
  same : Same G G'
  sub : ∀ a o, G' a = some o → H' a = some o
  new : ∀ a o, G' a = some o → G a = some o ∨ H a = none ∨ isTp o
  frm : ∀ a o, H a = some o → ¬ refAddr vs rf a → (∀ ps, o ≠ .tbl ps) → H' a = some o
  ref : ∀ (k p : Nat) (a : Addr), rf[k]? = some p → vs[p]? = some (V.ref a) → ∃ d o, os[k]? = some d ∧ H' a = some o ∧ ORep K G' d o ∧ G' a = none
  tabs : LamX.Tabs (lamT K) H'
  ntb : noTb G'
  dom : ∀ a, H' a = none → H a = none
def ResOk (K : Fg) (fr : Bool) (H G' H' : Hp) (d : D) (v : V) : Prop :=
  if fr = true then ∃ a o, v = .ref a ∧ H' a = some o ∧ ORep K G' d o ∧ G' a = none ∧ H a = none else Rep K G' d v
def FR.post (r : FR) (P : D → List D → Prop) (E : Str → List (Str × D) → List D → Prop) : Prop := match r with | .ret d os => P d os | .exc c fs os => E c fs os | .bad => False
theorem FR.post_mono {r : FR} {P P' : D → List D → Prop} {E E' : Str → List (Str × D) → List D → Prop} (h : r.post P E) (k : ∀ d e, P d e → P' d e) (x : ∀ c fs e, E c fs e → E' c fs e) : r.post P' E' := by
  cases r with
  | ret d e => exact k d e h
  | exc c fs e => exact x c fs e h
  | bad => exact h
def lift (K : Fg) (n : Nat) (rf : List Nat) (fr : Bool) (F : List D → FR) : Sp := fun vs H Q E => ∃ G ds, ds.length = n ∧ (∀ a o, G a = some o → H a = some o) ∧ ArgsOk K rf G H ds vs ∧
  (F ds).post (fun d os => ∀ v H' G', OutOk K rf G H vs G' H' os → ResOk K fr H G' H' d v → Q v H') (fun c fs os => ∀ H' G' cls dd, OutOk K rf G H vs G' H' os → XRep K G' H' c fs cls dd → E cls dd H')
/-- what is left in the parameters that were handed by reference -/
def outs : List Nat → Env → Option (List D)
  | [], _ => some []
  | p :: r, e => match e[p]? with
    | some (some d) => (outs r e).map (d :: ·)
    | _ => none
theorem outs_at : ∀ {rf : List Nat} {e : Env} {os : List D} {k p : Nat}, outs rf e = some os → rf[k]? = some p → ∃ d, os[k]? = some d ∧ e[p]? = some (some d)
  | [], _, _, _, _, _, h => by simp at h
  | q :: r, e, os, k, p, h, hk => by
    unfold outs at h
    split at h
    · rename_i d ed
      obtain ⟨os', h1, rfl⟩ := Option.map_eq_some_iff.mp h
      cases k with
      | zero => simp at hk; subst hk; exact ⟨d, rfl, ed⟩
      | succ k => exact outs_at (k := k) h1 (by simpa using hk)
    · cases h
def toFR (rf : List Nat) (fr : Bool) (r : SR) : FR := match r with
  | .nx e => if fr then .bad else (match outs rf e with | some os => .ret .non os | none => .bad)
  | .rt d e => match outs rf e with | some os => .ret d os | none => .bad
  | .exc c fs e => match outs rf e with | some os => .exc c fs os | none => .bad
  | _ => .bad
def env0 (n : Nat) (ds : List D) : Env := ds.map some ++ List.replicate (n - ds.length) none
def runF (b : CB) (n : Nat) (rf : List Nat) (fr : Bool) (ds : List D) : FR := toFR rf fr (b.ev (env0 n ds))
def scOf (N : List Str) (scope : Scope) (ow rf : List Nat) (fr : Bool) (df : Option Str := none) : SC := ⟨N, fun x => scope.names.lookup x, ow, rf, true, true, fr, df⟩
theorem env0_get {n : Nat} {ds : List D} {i : Nat} {d : D} (h : (env0 n ds)[i]? = some (some d)) : ds[i]? = some d := by
  unfold env0 at h
  by_cases hi : i < ds.length
  · rw [List.getElem?_append_left (by simpa using hi), List.getElem?_map] at h
    cases e : ds[i]? with
    | none => rw [e] at h; cases h
    | some x => rw [e] at h; cases h; rfl
  · rw [List.getElem?_append_right (by simpa using hi)] at h
    have := List.mem_of_getElem? h
    rw [List.mem_replicate] at this
    cases this.2
theorem start_get {N : List Str} {vs : List V} {i : Nat} {v : V} (h : vs[i]? = some v) : (start N vs)[i]? = some (some v) := by
  unfold L2.start
  have hi : i < vs.length := (List.getElem?_eq_some_iff.mp h).1
  rw [List.getElem?_append_left (by simpa using hi), List.getElem?_map, h]
  rfl
theorem start_ref {N : List Str} {vs : List V} {i : Nat} {v : V} (h : (start N vs)[i]? = some (some v)) : vs[i]? = some v := by
  unfold L2.start at h
  by_cases hi : i < vs.length
  · rw [List.getElem?_append_left (by simpa using hi), List.getElem?_map] at h
    cases e : vs[i]? with
    | none => rw [e] at h; cases h
    | some x => rw [e] at h; cases h; rfl
  · rw [List.getElem?_append_right (by simpa using hi)] at h
    have := List.mem_of_getElem? h
    rw [List.mem_replicate] at this
    cases this.2
open Classical in
/-- the heap without some addresses -/
noncomputable def less (H : Hp) (vs : List V) (rf : List Nat) : Hp := fun a => if refAddr vs rf a ∨ (∃ ps, H a = some (.tbl ps)) then none else H a
theorem less_some {H : Hp} {vs : List V} {rf : List Nat} {a : Addr} {o : HO} (h : less H vs rf a = some o) : H a = some o := by
  unfold less at h
  split at h
  · cases h
  · exact h
/-- THE RULE: a def whose body is read by b -/
theorem fn_ok {P : Program} {w : World} {K : Fg} {mg : Str → Option Value} {base : Heap} {x qual : Str} {params : Arguments} {body : List Stmt} {scope : Scope} {dvs : List V} {kws : List (Str × V)} {f : Addr} {fd : FuncData}
    {N ps : List Str} {k : Nat} (F : FunD K x qual params body scope dvs kws f fd) (S : FnScope N ps scope) (ow rf : List Nat) (fr : Bool) (b : CB)
    (hrf : rf.all (fun p => ow.contains p && decide (p < ps.length)) = true) (hps : (List.range ps.length).all (fun i => !ow.contains i || rf.contains i) = true) (hN : ps.length ≤ N.length) (how : ow.all (fun p => decide (p < N.length)) = true)
    {df : Option Str} (hc : b.chk (scOf N scope ow rf fr df) body = true) (hq : ∀ A, Room k A → b.req ⟨P, w, K, mg, base, A⟩) (hdf : ∀ d, df = some d → f = He.fAd K (d, none) ∧ qual = d) :
    FnOk P w K mg base (L2.CX P w) (k + 1) f fd ps (lift K ps.length rf fr (runF b N.length rf fr)) := by
  have hrf1 : ∀ p ∈ rf, p ∈ ow ∧ p < ps.length := fun p hp => by
    have := List.all_eq_true.mp hrf p hp
    obtain ⟨h1, h2⟩ := and3 this
    exact ⟨by simpa using h1, of_decide_eq_true h2⟩
  obtain ⟨oc, od, dV, kV, doc, pm, an, cdv, ct, osl, rfl, lk, hcd, _, _⟩ := F.ex
  refine fn_of lk hcd S (fun vs H Q E h => ?_) fun A outer s H vs Q E hr h => ?_
  · obtain ⟨G, ds, hn, _, a, _⟩ := h
    rw [← a.len]; exact hn
  · obtain ⟨G, ds, hn, hG, a, h⟩ := h
    have hlen : vs.length = ps.length := by rw [← a.len]; exact hn
    have xok : XOk (scOf N scope ow rf fr df) (cxOf (L2.CX P w) P w K mg base N qual scope f cdv A outer s H E) := by
      refine ⟨rfl, S.nd, fun _ => rfl, rfl, fun _ _ => rfl, (by have := hr.un; show (A.deeper _).units + 100 < cLine; omega), S.kind, (fun _ => ⟨rfl, rfl⟩), fun d hd => ?_⟩
      obtain ⟨h1, rfl⟩ := hdf d hd
      subst h1
      obtain ⟨c, rfl⟩ := He.codeIn_ref hcd
      exact ⟨by show Value.ref c = Value.ref (He.codeOf K (qual, none)); rw [He.codeOf_eq lk rfl], rfl⟩
    refine ⟨tS (scOf N scope ow rf fr df) K b.ev (fun cls d _ H' => E cls d H'), b.sound _ _ _ _ hc xok (hq _ hr) (takes_of rfl rfl rfl rfl) (passes_of rfl), ?_⟩
    have slot : ∀ i d, (env0 N.length ds)[i]? = some (some d) → ds[i]? = some d := fun i d e => env0_get e
    have hlt : ∀ i d, (env0 N.length ds)[i]? = some (some d) → i < ps.length := fun i d e => by
      rw [← hn]; exact (List.getElem?_eq_some_iff.mp (slot i d e)).1
    have inrf : ∀ i d, i ∈ ow → (env0 N.length ds)[i]? = some (some d) → i ∈ rf := fun i d hi e => by
      have := List.all_eq_true.mp hps i (List.mem_range.mpr (hlt i d e))
      simpa [hi] using this
    have rel : Rel (scOf N scope ow rf fr df) K ⟨H, less H vs rf, G, start N vs⟩ [] G H (start N vs) (env0 N.length ds) := by
      refine ⟨fun a o e => .inl ⟨(fun z => nomatch z), hG a o e⟩, fun b o e => ?_, fun a o e => .inl e, Same.refl _, fun a e => e, (fun a z => nomatch z), ?_, fun i d hi e => ?_, fun i d hi e => ?_, fun i j di dj c hi hj ei ej si sj => ?_, fun p hp => rfl, fun p hp => (hrf1 p hp).1, fun p hp => ?_, fun a o e1 e2 _ => ?_, ⟨a.tabs, a.ntb, fun b ps e => ?_⟩⟩
      · exact .inl ⟨(fun z => nomatch z), less_some e⟩
      · unfold env0 L2.start
        rw [List.length_append, List.length_append, List.length_map, List.length_map, List.length_replicate, List.length_replicate, a.len]
      · have hi' : i ∉ rf := fun z => hi (hrf1 i z).1
        obtain ⟨v, h1, h2⟩ := a.val i d hi' (slot i d e)
        exact ⟨v, start_get h1, h2⟩
      · obtain ⟨c, o, h1, h2, h3, h4⟩ := a.ref i d (inrf i d hi e) (slot i d e)
        refine ⟨c, o, start_get h1, h2, h3, h4, ?_, (fun z => nomatch z), .inl (inrf i d hi e)⟩
        show less H vs rf c = none
        unfold less
        rw [if_pos (.inl ⟨i, inrf i d hi e, h1⟩)]
      · exact a.dis i j c (inrf i di hi ei) (inrf j dj hj ej) (start_ref si) (start_ref sj)
      · have := of_decide_eq_true (List.all_eq_true.mp how p hp)
        unfold L2.start
        rw [List.length_append, List.length_map, List.length_replicate]
        omega
      · have e3 : H a = none := e2
        rw [less_some e1] at e3; cases e3
      · have e : less H vs rf b = some (.tbl ps) := e
        have e4 := less_some e
        unfold less at e
        rw [if_pos (.inr ⟨ps, e4⟩)] at e
        cases e
    refine ⟨_, [], G, _, rel, ?_⟩
    have out : ∀ σ' H' G' e os, Rel (scOf N scope ow rf fr df) K ⟨H, less H vs rf, G, start N vs⟩ [] G' H' σ' e → Same G G' → outs rf e = some os → OutOk K rf G H vs G' H' os := by
      intro σ' H' G' e os R sm ho
      refine ⟨sm, fun b o e1 => ?_, R.new, fun b o e1 nr nt => ?_, fun k p c hk hv => ?_, R.tab.tabs, R.tab.g, R.dom⟩
      · rcases R.sub b o e1 with ⟨_, z⟩ | ⟨z, _⟩
        · exact z
        · cases z
      · rcases R.frm b o (by show less H vs rf b = some o; unfold less; rw [if_neg (fun z => z.elim nr fun ⟨ps, z⟩ => nt ps (Option.some.inj (e1.symm.trans z)))]; exact e1) with ⟨_, z⟩ | ⟨z, _⟩
        · exact z
        · cases z
      · obtain ⟨d, h1, h2⟩ := outs_at ho hk
        have hp : p ∈ rf := List.mem_of_getElem? hk
        obtain ⟨c', o, k1, k2, k3, k4, _⟩ := R.own p d (hrf1 p hp).1 h2
        have hpar := R.par p hp
        rw [k1] at hpar
        have := start_get (N := N) hv
        rw [show (start N vs)[p]? = some (some (.ref c')) from hpar.symm] at this
        cases this
        exact ⟨d, o, h1, k2, k3, k4⟩
    unfold runF toFR at h
    cases eb : b.ev (env0 N.length ds) with
    | nx e =>
      simp only [eb] at h
      cases fr with
      | true => exact h.elim
      | false =>
        simp only [Bool.false_eq_true, if_false] at h
        cases eo : outs rf e with
        | none => rw [eo] at h; exact h.elim
        | some os =>
          rw [eo] at h
          exact fun σ' H' G' R' s' => h .non H' G' (out σ' H' G' e os R' s' eo) rfl
    | rt d e =>
      simp only [eb] at h
      cases eo : outs rf e with
      | none => rw [eo] at h; exact h.elim
      | some os =>
        rw [eo] at h
        intro v σ' H' G' R' s' r
        refine h v H' G' (out σ' H' G' e os R' s' eo) ?_
        cases fr with
        | false => exact r
        | true =>
          obtain ⟨c, o, h1, h2, h3, h4, h5, h6, h7, _⟩ := r
          exact ⟨c, o, h1, h2, h3, h4, h7⟩
    | exc c fs e =>
      simp only [eb] at h
      cases eo : outs rf e with
      | none => rw [eo] at h; exact h.elim
      | some os =>
        rw [eo] at h
        exact fun σ' H' G' cls d R' s' xr => h H' G' cls d (out σ' H' G' e os R' s' eo) xr
    | bk e => simp only [eb] at h; exact h.elim
    | ct e => simp only [eb] at h; exact h.elim
    | bad => simp only [eb] at h; exact h.elim
end C

set_option maxRecDepth 100000
set_option maxHeartbeats 4000000
namespace C
open PySem L2
/-! ### the arguments of a call: frozen values, and objects of names handed by reference -/
def ArgR (sc : SC) (K : Fg) (G : Hp) (σ : St) (env : Env) : List (Option Nat) → List D → List V → Prop
  | [], [], vs => vs = []
  | s :: sl, d :: ds, vs => ∃ v r, vs = v :: r ∧ VRel sc K G σ env s d v ∧ ArgR sc K G σ env sl ds r
  | _, _, _ => False
def tCc (sc : SC) (K : Fg) (sl : List (Option Nat)) (ev : Env → AR) (W : WX) : TA := fun σ H Q => ∃ f L G env, Rel sc K f L G H σ env ∧
  (ev env).post (fun ds env' => ∀ vs H' G', Rel sc K f L G' H' σ env' → Same G G' → ArgR sc K G' σ env' sl ds vs → Q vs H') (XW sc K f L G σ W)
structure CC where
  sl : List (Option Nat)
  chk : SC → List Expr → Bool
  req : Rq → Prop
  ev : Env → AR
  sound : ∀ sc X es W, chk sc es = true → XOk sc X → req (rq X) → Takes X W → PA X es (tCc sc X.K sl ev W)
  star : ∀ sc es, chk sc es = true → es.all notStar = true
def CC.nil : CC where
  sl := []
  chk _ es := match es with | [] => true | _ => false
  req _ := True
  ev env := .ok [] env
  sound sc X e W hc k q tk := by
    split at hc
    · refine pa_nil.imp fun σ H Q h => ?_
      obtain ⟨fx, L, G, env, R, h⟩ := h
      exact h [] H G R (Same.refl _) rfl
    · cases hc
  star sc es h := by
    split at h
    · rfl
    · cases h
def CC.val (c : CE) (r : CC) : CC where
  sl := none :: r.sl
  chk sc es := match es with | e :: es => notStar e && (c.bor.isNone && (c.chk sc e && r.chk sc es)) | _ => false
  req z := c.req z ∧ r.req z
  ev env := (c.ev env).bindA fun d e => (r.ev e).bindA fun ds e => .ok (d :: ds) e
  star sc es h := by
    split at h
    · obtain ⟨h1, h⟩ := and3 h
      obtain ⟨h2, h⟩ := and3 h
      obtain ⟨h3, h4⟩ := and3 h
      rw [List.all_cons, h1, r.star sc _ h4]
      rfl
    · cases h
  sound sc X e W hc k q tk := by
    split at hc
    · obtain ⟨h1, h⟩ := and3 hc
      obtain ⟨h2, h⟩ := and3 h
      obtain ⟨h3, h4⟩ := and3 h
      refine (pa_cons (c.sound sc X _ W h3 k q.1 tk) (r.sound sc X _ W h4 k q.2 tk) (notStar_ok h1)).imp fun σ H Q h => ?_
      have hb : c.bor = none := by simpa using h2
      obtain ⟨fx, L, G, env, R, h⟩ := h
      refine ⟨fx, L, G, env, R, ER.post_mono (ER.post_bindA h) (fun d e1 _ h v H1 G1 R1 s1 r1 => ?_) fun _ _ _ h => h⟩
      rw [hb] at r1
      refine ⟨fx, L, G1, e1, R1, AR.post_mono (AR.post_bindA h) (fun ds e2 _ h vs H2 G2 R2 s2 r2 => ?_) (XW.mono s1)⟩
      exact h (v :: vs) H2 G2 R2 (s1.trans s2) ⟨v, vs, rfl, Rep.mono (Le.of_same s2) _ _ r1, r2⟩
    · cases hc
/-- the object of slot i goes by reference; what it holds is read behind the other arguments -/
def CC.ref (i : Nat) (r : CC) : CC where
  sl := some i :: r.sl
  chk sc es := match es with | .Name x _ :: es => chkVar sc i x && (sc.ow.contains i && r.chk sc es) | _ => false
  req z := r.req z
  ev env := match env[i]? with
    | some (some _) => (r.ev env).bindA fun ds e => match e[i]? with | some (some d) => .ok (d :: ds) e | _ => .bad
    | _ => .bad
  star sc es h := by
    split at h
    · obtain ⟨h1, h⟩ := and3 h
      obtain ⟨h2, h3⟩ := and3 h
      rw [List.all_cons, r.star sc _ h3]
      rfl
    · cases h
  sound sc X e W hc k q tk := by
    split at hc
    · obtain ⟨h1, h⟩ := and3 hc
      obtain ⟨h2, h3⟩ := and3 h
      have ho : i ∈ sc.ow := by simpa using h2
      refine (pa_cons (chkVar_ok h1 k) (r.sound sc X _ W h3 k q tk) rfl).imp fun σ H Q h => ?_
      obtain ⟨fx, L, G, env, R, h⟩ := h
      cases ei : env[i]? with
      | none => simp only [ei] at h; exact h.elim
      | some o =>
        cases o with
        | none => simp only [ei] at h; exact h.elim
        | some d0 =>
          simp only [ei] at h
          obtain ⟨a, o, k1, _⟩ := R.own i d0 ho ei
          refine ⟨_, k1, fx, L, G, env, R, AR.post_mono (AR.post_bindA h) (fun ds e2 _ h vs H2 G2 R2 s2 r2 => ?_) fun _ _ _ h => h⟩
          cases ej : e2[i]? with
          | none => rw [ej] at h; exact h.elim
          | some o2 =>
            cases o2 with
            | none => rw [ej] at h; exact h.elim
            | some d =>
              rw [ej] at h
              exact h _ H2 G2 R2 s2 ⟨_, vs, rfl, ⟨ho, ej, k1⟩, r2⟩
    · cases hc
/-- the positions and slots of what goes by reference -/
def posR : Nat → List (Option Nat) → List Nat
  | _, [] => []
  | p, none :: l => posR (p + 1) l
  | p, some _ :: l => p :: posR (p + 1) l
def slR (l : List (Option Nat)) : List Nat := l.filterMap id
/-- what was handed by reference is stored back -/
def backR : List Nat → List D → Env → Option Env
  | [], [], e => some e
  | i :: l, d :: ds, e => backR l ds (e.set i (some d))
  | _, _, _ => none
/-- a def as the caller knows it -/
def FnRq (r : Rq) (x : Str) (n : Nat) (rf : List Nat) (fr : Bool) (dds : List D) (F : List D → FR) : Prop := ∃ k f fd ps dvs ds, FnOk r.prog r.w r.K r.mg r.base (L2.CX r.prog r.w) k f fd ps (lift r.K n rf fr F) ∧ Room k r.A ∧ r.mg x = some (.ref f) ∧
  PySem.W.keepIn r.K (.ref f) = true ∧ Binds r.K fd ps ds ∧ Vals dvs ds ∧ ∀ G, Reps r.K G dds dvs
theorem ArgR.len {sc : SC} {K : Fg} {G : Hp} {σ : St} {env : Env} : ∀ {sl : List (Option Nat)} {ds : List D} {vs : List V}, ArgR sc K G σ env sl ds vs → sl.length = ds.length ∧ ds.length = vs.length
  | [], [], vs, h => by cases h; exact ⟨rfl, rfl⟩
  | [], _ :: _, _, h => h.elim
  | _ :: _, [], _, h => h.elim
  | s :: sl, d :: ds, vs, h => by
    obtain ⟨v, r, rfl, _, h2⟩ := h
    obtain ⟨i1, i2⟩ := ArgR.len h2
    simp [i1, i2]
theorem ArgR.at {sc : SC} {K : Fg} {G : Hp} {σ : St} {env : Env} : ∀ {sl : List (Option Nat)} {ds : List D} {vs : List V} {i : Nat} {d : D}, ArgR sc K G σ env sl ds vs → ds[i]? = some d → ∃ s v, sl[i]? = some s ∧ vs[i]? = some v ∧ VRel sc K G σ env s d v
  | [], [], vs, i, d, h, e => by simp at e
  | [], _ :: _, _, _, _, h, _ => h.elim
  | _ :: _, [], _, _, _, h, _ => h.elim
  | s :: sl, d0 :: ds, vs, i, d, h, e => by
    obtain ⟨v, r, rfl, h1, h2⟩ := h
    cases i with
    | zero => simp at e; subst e; exact ⟨s, v, rfl, rfl, h1⟩
    | succ i =>
      obtain ⟨s', v', e1, e2, e3⟩ := ArgR.at (i := i) h2 (by simpa using e)
      exact ⟨s', v', by simpa using e1, by simpa using e2, e3⟩
theorem posR_mem : ∀ {l : List (Option Nat)} {p q : Nat}, q ∈ posR p l ↔ ∃ i s, q = p + i ∧ l[i]? = some (some s)
  | [], p, q => by simp [posR]
  | none :: l, p, q => by
    unfold posR
    rw [posR_mem]
    constructor
    · rintro ⟨i, s, rfl, e⟩
      exact ⟨i + 1, s, by omega, by simpa using e⟩
    · rintro ⟨i, s, rfl, e⟩
      cases i with
      | zero => simp at e
      | succ i => exact ⟨i, s, by omega, by simpa using e⟩
  | some t :: l, p, q => by
    unfold posR
    rw [List.mem_cons, posR_mem]
    constructor
    · rintro (rfl | ⟨i, s, rfl, e⟩)
      · exact ⟨0, t, rfl, rfl⟩
      · exact ⟨i + 1, s, by omega, by simpa using e⟩
    · rintro ⟨i, s, rfl, e⟩
      cases i with
      | zero => exact .inl rfl
      | succ i => exact .inr ⟨i, s, by omega, by simpa using e⟩
theorem posR_slR : ∀ {l : List (Option Nat)} {p k q : Nat}, (posR p l)[k]? = some q → ∃ i s, q = p + i ∧ l[i]? = some (some s) ∧ (slR l)[k]? = some s
  | [], p, k, q, h => by simp [posR] at h
  | none :: l, p, k, q, h => by
    unfold posR at h
    obtain ⟨i, s, rfl, e1, e2⟩ := posR_slR h
    exact ⟨i + 1, s, by omega, by simpa using e1, by simpa [slR] using e2⟩
  | some t :: l, p, k, q, h => by
    unfold posR at h
    cases k with
    | zero => simp at h; subst h; exact ⟨0, t, rfl, rfl, by simp [slR]⟩
    | succ k =>
      obtain ⟨i, s, rfl, e1, e2⟩ := posR_slR (k := k) (by simpa using h)
      exact ⟨i + 1, s, by omega, by simpa using e1, by simpa [slR] using e2⟩
theorem slR_posR : ∀ {l : List (Option Nat)} {p k s : Nat}, (slR l)[k]? = some s → ∃ i, (posR p l)[k]? = some (p + i) ∧ l[i]? = some (some s)
  | [], p, k, s, h => by simp [slR] at h
  | none :: l, p, k, s, h => by
    obtain ⟨i, e1, e2⟩ := slR_posR (l := l) (p := p + 1) (k := k) (s := s) (by simpa [slR] using h)
    exact ⟨i + 1, by unfold posR; rw [e1]; congr 1; omega, by simpa using e2⟩
  | some t :: l, p, k, s, h => by
    cases k with
    | zero => simp [slR] at h; subst h; exact ⟨0, rfl, rfl⟩
    | succ k =>
      obtain ⟨i, e1, e2⟩ := slR_posR (l := l) (p := p + 1) (k := k) (s := s) (by simpa [slR] using h)
      exact ⟨i + 1, by unfold posR; rw [List.getElem?_cons_succ, e1]; congr 1; omega, by simpa using e2⟩
/-- behind backR: each slot holds its own, the others as before -/
theorem backR_len : ∀ {l : List Nat} {ds : List D} {e e' : Env}, backR l ds e = some e' → e'.length = e.length
  | [], [], e, e', h => by cases h; rfl
  | [], _ :: _, _, _, h => by cases h
  | _ :: _, [], _, _, h => by cases h
  | i :: l, d :: ds, e, e', h => by
    have := backR_len (l := l) h
    rw [this, List.length_set]
theorem backR_out : ∀ {l : List Nat} {ds : List D} {e e' : Env} {j : Nat}, backR l ds e = some e' → j ∉ l → e'[j]? = e[j]?
  | [], [], e, e', j, h, _ => by cases h; rfl
  | [], _ :: _, _, _, _, h, _ => by cases h
  | _ :: _, [], _, _, _, h, _ => by cases h
  | i :: l, d :: ds, e, e', j, h, hj => by
    have := backR_out (l := l) h fun z => hj (List.mem_cons_of_mem _ z)
    have hne : i ≠ j := fun z => hj (by rw [z]; exact List.mem_cons_self)
    rw [this, List.getElem?_set_ne hne]
theorem backR_in : ∀ {l : List Nat} {ds : List D} {e e' : Env} {j : Nat} {x : D}, l.Nodup → backR l ds e = some e' → j ∈ l → e'[j]? = some (some x) → ∃ k : Nat, l[k]? = some j ∧ ds[k]? = some x
  | [], _, _, _, _, _, _, _, hj, _ => by cases hj
  | i :: l, [], _, _, _, _, _, h, _, _ => by cases h
  | i :: l, d :: ds, e, e', j, x, nd, h, hj, hx => by
    obtain ⟨n1, n2⟩ := List.nodup_cons.mp nd
    by_cases e1 : j ∈ l
    · obtain ⟨k, h1, h2⟩ := backR_in n2 h e1 hx
      exact ⟨k + 1, by simpa using h1, by simpa using h2⟩
    · have : j = i := (List.mem_cons.mp hj).resolve_right e1
      subst this
      have h' : backR l ds (e.set j (some d)) = some e' := h
      rw [backR_out h' e1] at hx
      rcases set_get hx with ⟨_, rfl, _⟩ | ⟨z, _⟩
      · exact ⟨0, rfl, rfl⟩
      · exact absurd rfl z
open Classical in
/-- what a callee is told of the frozen part: as it stands in H -/
noncomputable def seen (G H : Hp) : Hp := fun a => match G a with | none => none | some _ => H a
theorem seen_le {sc : SC} {K : Fg} {f : Fx} {L : List Addr} {G H : Hp} {σ : St} {env : Env} (R : Rel sc K f L G H σ env) : Le G (seen G H) := by
  have key : ∀ a o, G a = some o → seen G H a = H a := fun a o e => by unfold seen; rw [e]
  refine ⟨fun a o n e => by rw [key a o e]; exact R.le.ex a o n e, fun a u n r => ?_⟩
  have := R.le.dd a u n r
  rcases r with e | ⟨o, e⟩
  · unfold Rd; rw [key a _ e]; exact this
  · unfold Rd; rw [key a _ e]; exact this
def merge (G G' : Hp) : Hp := fun a => match G a with | none => G' a | some o => some o
theorem merge_le {sc : SC} {K : Fg} {f : Fx} {L : List Addr} {G H G' : Hp} {σ : St} {env : Env} (R : Rel sc K f L G H σ env) (s : Same (seen G H) G') : Le G' (merge G G') := by
  have h0 : ∀ a, G a = none → merge G G' a = G' a := fun a e => by unfold merge; rw [e]
  have h1 : ∀ a w, G a = some w → merge G G' a = some w := fun a w e => by unfold merge; rw [e]
  have h2 : ∀ a w, G a = some w → G' a = H a := fun a w e => by
    have e1 : seen G H a = H a := by unfold seen; rw [e]
    cases eh : H a with
    | none => exact absurd eh (R.sub a w e).some
    | some u => exact s a u (by rw [e1]; exact eh)
  refine ⟨fun a o n e => ?_, fun a u n r => ?_⟩
  · cases eg : G a with
    | none => rw [h0 a eg]; exact e
    | some w =>
      rw [h2 a w eg] at e
      rw [h1 a w eg]
      rcases R.sub a w eg with ⟨_, z⟩ | ⟨hl, ob, z⟩
      · rw [z] at e; exact e
      · rw [z] at e
        cases e
        exact absurd ((R.lk a hl).2.1 w eg) (n.2 ob w rfl)
  · cases eg : G a with
    | none =>
      unfold Rd at r ⊢
      rw [h0 a eg]; exact r
    | some w =>
      unfold Rd at r ⊢
      rw [h2 a w eg] at r
      rw [h1 a w eg]
      rcases R.sub a w eg with ⟨_, z⟩ | ⟨hl, ob, z⟩
      · rw [z] at r; exact r
      · rw [z] at r
        have hw := (R.lk a hl).2.1 w eg
        rcases r with e | ⟨o, e⟩
        · cases e
          rcases n with ⟨x, z⟩ | ⟨x, z⟩ <;> cases z
        · cases e; exact .inl rfl
/-- THE CALL, over the data: from the caller's state to the callee's promise and back -/
theorem call_core {sc : SC} {K : Fg} {f : Fx} {L : List Addr} {G H : Hp} {σ : St} {env : Env} {sl : List (Option Nat)} {ds dds : List D} {vs dvs : List V} {n : Nat} {fr : Bool} {F : List D → FR} {W : WX} {Q : VK}
    (R : Rel sc K f L G H σ env) (ar : ArgR sc K G σ env sl ds vs) (nd : (slR sl).Nodup) (hd : ∀ G, Reps K G dds dvs) (hn : (ds ++ dds).length = n)
    (h : (F (ds ++ dds)).post (fun d os => ∀ v H' G' env', backR (slR sl) os env = some env' → Rel sc K f L G' H' σ env' → Same G G' → (if fr = true then FrRel sc K f L G' H' σ env' d v else Rep K G' d v) → Q v H')
      (fun c fs os => ∀ env', backR (slR sl) os env = some env' → XW sc K f L G σ W c fs env'))
    (hb : (F (ds ++ dds)).post (fun d os => os.length = (slR sl).length) fun c fs os => os.length = (slR sl).length) :
    lift K n (posR 0 sl) fr F (vs ++ dvs) H Q (fun cls d H' => W cls d σ H') := by
  have hl := ar.len
  have hsl : ∀ i, i ∈ posR 0 sl → i < ds.length := fun i hi => by
    obtain ⟨j, s, rfl, e⟩ := posR_mem.mp hi
    rw [← hl.1, Nat.zero_add]; exact (List.getElem?_eq_some_iff.mp e).1
  have le := seen_le R
  have lv := (hd G).length
  have rfs : ∀ i a, i ∈ posR 0 sl → (vs ++ dvs)[i]? = some (.ref a) → ∃ s d o, sl[i]? = some (some s) ∧ s ∈ sc.ow ∧ env[s]? = some (some d) ∧ σ[s]? = some (some (.ref a)) ∧ H a = some o ∧ ORep K G d o ∧ G a = none ∧ f.F a = none ∧ a ∉ L ∧ ds[i]? = some d := by
    intro i a hi hv
    have hlt := hsl i hi
    obtain ⟨j, s, e0, e⟩ := posR_mem.mp hi
    rw [Nat.zero_add] at e0
    subst e0
    rw [List.getElem?_append_left (by rw [← hl.2]; exact hlt)] at hv
    obtain ⟨s', v, e1, e2, e3⟩ := ar.at (List.getElem?_eq_getElem hlt)
    rw [e] at e1
    cases e1
    rw [hv] at e2
    cases e2
    obtain ⟨k1, k2, k3⟩ := e3
    obtain ⟨a', o, m1, m2, m3, m4, m5, m6, _⟩ := R.own s _ k1 k2
    rw [k3] at m1
    cases m1
    exact ⟨s, _, o, e, k1, k2, k3, m2, m3, m4, m5, m6, List.getElem?_eq_getElem hlt⟩
  refine ⟨seen G H, ds ++ dds, hn, fun a o e => ?_, ⟨by rw [List.length_append, List.length_append, hl.2, lv], fun i d hi e => ?_, fun i d hi e => ?_, fun i j a hi hj ei ej => ?_, R.tab.tabs, fun a ps e => ?_⟩, ?_⟩
  · unfold seen at e
    cases eg : G a with
    | none => rw [eg] at e; cases e
    | some w => rw [eg] at e; exact e
  · by_cases hlt : i < ds.length
    · rw [List.getElem?_append_left hlt] at e
      obtain ⟨s, v, e1, e2, e3⟩ := ar.at e
      cases s with
      | none => exact ⟨v, by rw [List.getElem?_append_left (by rw [← hl.2]; exact hlt)]; exact e2, Rep.mono le _ _ e3⟩
      | some s => exact absurd (posR_mem.mpr ⟨i, s, by omega, e1⟩) hi
    · rw [List.getElem?_append_right (by omega)] at e
      obtain ⟨v, e1, e2⟩ := (hd (seen G H)).at e
      exact ⟨v, by rw [List.getElem?_append_right (by omega), ← hl.2]; exact e1, e2⟩
  · have hlt := hsl i hi
    rw [List.getElem?_append_left hlt] at e
    obtain ⟨j, s, e0, es⟩ := posR_mem.mp hi
    rw [Nat.zero_add] at e0
    subst e0
    obtain ⟨s', v, e1, e2, e3⟩ := ar.at e
    rw [es] at e1
    cases e1
    obtain ⟨k1, k2, k3⟩ := e3
    obtain ⟨a, o, m1, m2, m3, m4, _⟩ := R.own s _ k1 k2
    rw [k3] at m1
    cases m1
    exact ⟨a, o, by rw [List.getElem?_append_left (by rw [← hl.2]; exact hlt)]; exact e2, m2, m3.mono le, by unfold seen; rw [m4]⟩
  · obtain ⟨s1, d1, o1, a1, b1, c1, f1, _⟩ := rfs i a hi ei
    obtain ⟨s2, d2, o2, a2, b2, c2, f2, _⟩ := rfs j a hj ej
    have := R.dis s1 s2 d1 d2 a b1 b2 c1 c2 f1 f2
    subst this
    -- two positions of one slot
    have key : ∀ (l : List (Option Nat)) (i j s : Nat), (slR l).Nodup → l[i]? = some (some s) → l[j]? = some (some s) → i = j := by
      intro l
      induction l with
      | nil => intro i j s _ e; simp at e
      | cons x l ih =>
        intro i j s nd e1 e2
        cases x with
        | none =>
          have nd' : (slR l).Nodup := by simpa [slR] using nd
          cases i with
          | zero => simp at e1
          | succ i =>
            cases j with
            | zero => simp at e2
            | succ j => rw [ih i j s nd' (by simpa using e1) (by simpa using e2)]
        | some t =>
          have nd' : t ∉ slR l ∧ (slR l).Nodup := by simpa [slR] using nd
          have mem : ∀ m, l[m]? = some (some s) → s ∈ slR l := fun m hm => by
            unfold slR; exact List.mem_filterMap.mpr ⟨some s, List.mem_of_getElem? hm, rfl⟩
          cases i with
          | zero =>
            simp at e1
            subst e1
            cases j with
            | zero => rfl
            | succ j => exact absurd (mem j (by simpa using e2)) nd'.1
          | succ i =>
            cases j with
            | zero =>
              simp at e2
              subst e2
              exact absurd (mem i (by simpa using e1)) nd'.1
            | succ j => rw [ih i j s nd'.2 (by simpa using e1) (by simpa using e2)]
    exact key sl i j s1 nd a1 a2
  · unfold seen at e
    cases eg : G a with
    | none => rw [eg] at e; cases e
    | some w =>
      rw [eg] at e
      rcases R.sub a w eg with ⟨_, z⟩ | ⟨_, ob, z⟩
      · have e : H a = some (.tbl ps) := e
        rw [z] at e; exact R.tab.g a ps (eg.trans e)
      · have e : H a = some (.tbl ps) := e
        rw [z] at e; cases e
  · -- back
    have back : ∀ H' G' os, os.length = (slR sl).length → OutOk K (posR 0 sl) (seen G H) H (vs ++ dvs) G' H' os → ∃ env', backR (slR sl) os env = some env' ∧ Rel sc K f L (merge G G') H' σ env' ∧ Same G (merge G G') ∧ Le G' (merge G G') ∧ (∀ a, G' a = none → H a = none → merge G G' a = none) := by
      intro H' G' os hos O
      have hbk : ∀ (l : List Nat) (ds : List D) (e : Env), ds.length = l.length → ∃ e', backR l ds e = some e' := by
        intro l
        induction l with
        | nil => intro ds e h; cases ds with | nil => exact ⟨e, rfl⟩ | cons _ _ => simp at h
        | cons i l ih => intro ds e h; cases ds with | nil => simp at h | cons d ds => exact ih ds _ (by simpa using h)
      obtain ⟨env', eb⟩ := hbk (slR sl) os env hos
      have ml := merge_le R O.same
      refine ⟨env', eb, ?_, fun a o e => by unfold merge; rw [e], ml, fun a e1 e2 => by unfold merge; rw [R.gnone e2]; exact e1⟩
      have hsg : ∀ s, s ∈ slR sl → ∃ (k i : Nat), (slR sl)[k]? = some s ∧ (posR 0 sl)[k]? = some i ∧ sl[i]? = some (some s) := fun s hs => by
        obtain ⟨k, hk⟩ := List.getElem?_of_mem hs
        obtain ⟨i, e1, e2⟩ := slR_posR (p := 0) hk
        rw [Nat.zero_add] at e1
        exact ⟨k, i, hk, e1, e2⟩
      let as : List Addr := (posR 0 sl).filterMap fun i => match (vs ++ dvs)[(i : Nat)]? with | some (V.ref a) => some a | _ => none
      have has : ∀ a, a ∈ as ↔ refAddr (vs ++ dvs) (posR 0 sl) a := fun a => by
        constructor
        · intro h
          obtain ⟨i, hi, e⟩ := List.mem_filterMap.mp h
          refine ⟨i, hi, ?_⟩
          split at e
          · rename_i b eb; cases e; exact eb
          · cases e
        · rintro ⟨i, hi, e⟩
          exact List.mem_filterMap.mpr ⟨i, hi, by rw [e]⟩
      refine R.chg as (fun a o e na nt => O.frm a o e (fun z => na ((has a).mpr z)) nt) O.tabs O.dom (fun a o e => by unfold merge; rw [e]) (fun a o e => ?_) (fun a ha => ?_) (fun a ps e => by
        unfold merge at e
        cases eg : G a with
        | none => rw [eg] at e; exact O.ntb a ps e
        | some w => rw [eg] at e; exact R.tab.g a ps (eg.trans e)) (backR_len eb) fun i d e => ?_
      · cases eg : G a with
        | some w => unfold merge at e; rw [eg] at e; exact .inl e
        | none =>
          unfold merge at e
          rw [eg] at e
          rcases O.new a o e with z | z | z
          · unfold seen at z; rw [eg] at z; cases z
          · exact .inr (.inl ⟨z, O.sub a o e⟩)
          · exact .inr (.inr ⟨z, O.sub a o e⟩)
      · obtain ⟨i, hi, ev⟩ := (has a).mp ha
        obtain ⟨s, d, o, g1, g2, g3, g4, g5, g6, g7, g8, g9, _⟩ := rfs i a hi ev
        obtain ⟨k, hk⟩ := List.getElem?_of_mem hi
        obtain ⟨d', o', q1, q2, _⟩ := O.ref k i a hk ev
        exact ⟨g7, g8, g9, by rw [q2]; simp⟩
      · by_cases hs : i ∈ slR sl
        · obtain ⟨k, hk1, hk2⟩ := backR_in nd eb hs e
          obtain ⟨p, e1, e2⟩ := slR_posR (p := 0) hk1
          rw [Nat.zero_add] at e1
          have hp : p ∈ posR 0 sl := List.mem_of_getElem? e1
          have hlt := hsl p hp
          obtain ⟨s', v, f1, f2, f3⟩ := ar.at (List.getElem?_eq_getElem hlt)
          rw [e2] at f1
          cases f1
          obtain ⟨k1, k2, k3⟩ := f3
          obtain ⟨a, o, m1, _⟩ := R.own i _ k1 k2
          rw [k3] at m1
          cases m1
          have hv : (vs ++ dvs)[p]? = some (.ref a) := by rw [List.getElem?_append_left (by rw [← hl.2]; exact hlt)]; exact f2
          obtain ⟨d', o', q1, q2, q3, _⟩ := O.ref k p a e1 hv
          rw [hk2] at q1
          cases q1
          exact .inr ⟨k1, ⟨_, k2⟩, a, o', k3, q2, q3.mono ml⟩
        · rw [backR_out eb hs] at e
          refine .inl ⟨e, fun hi a sa ha => ?_⟩
          obtain ⟨p, hp, ev⟩ := (has a).mp ha
          obtain ⟨s, d', o, g1, g2, g3, g4, _⟩ := rfs p a hp ev
          have := R.dis i s d d' a hi g2 e g3 sa g4
          subst this
          exact hs (by unfold slR; exact List.mem_filterMap.mpr ⟨some i, List.mem_of_getElem? g1, rfl⟩)
    cases ef : F (ds ++ dds) with
    | bad => rw [ef] at h; exact h
    | exc c fs os =>
      rw [ef] at h hb
      intro H' G' cls dd O xr
      obtain ⟨env', e1, R', s', ml, _⟩ := back H' G' os hb O
      refine h env' e1 H' (merge G G') cls dd R' s' ⟨xr.1, ?_⟩
      rcases xr.2 with z | ⟨d1, xs, z1, z2, z3⟩
      · exact .inl z
      · exact .inr ⟨d1, xs, z1, ml.ex _ _ (notD_xd _) z2, RepF.mono ml _ _ z3⟩
    | ret d os =>
      rw [ef] at h hb
      intro v H' G' O rr
      obtain ⟨env', e1, R', s', ml, nn⟩ := back H' G' os hb O
      refine h v H' (merge G G') env' e1 R' s' ?_
      cases fr with
      | false => exact Rep.mono ml _ _ rr
      | true =>
        obtain ⟨a, o, rfl, h2, h3, h4, h5⟩ := rr
        refine ⟨a, o, rfl, h2, h3.mono ml, nn a h4 h5, ?_, fun z => (R.lk a z).1 h5, R.dom a h5, fun i d' hi ei si => ?_⟩
        · cases e : f.F a with
          | none => rfl
          | some u => exact absurd h5 (R.frm a u e).some
        · have : ∃ d0, env[i]? = some (some d0) := by
            by_cases hs : i ∈ slR sl
            · obtain ⟨k, hk⟩ := List.getElem?_of_mem hs
              obtain ⟨p, e3, e4⟩ := slR_posR (p := 0) hk
              rw [Nat.zero_add] at e3
              have hlt := hsl p (List.mem_of_getElem? e3)
              obtain ⟨s', v', f1, f2, f3⟩ := ar.at (List.getElem?_eq_getElem hlt)
              rw [e4] at f1
              cases f1
              exact ⟨_, f3.2.1⟩
            · rw [backR_out e1 hs] at ei
              exact ⟨_, ei⟩
          obtain ⟨d0, e0⟩ := this
          obtain ⟨b, u, m1, m2, _⟩ := R.own i d0 hi e0
          rw [si] at m1
          cases m1
          rw [h5] at m2
          cases m2
end C

set_option maxRecDepth 100000
set_option maxHeartbeats 4000000
namespace C
open PySem L2
/-! ### calls of defs -/
def evCall (F : List D → FR) (dds : List D) (sl : List (Option Nat)) (ds : List D) (e : Env) : ER := match F (ds ++ dds) with
  | .ret d os => (match backR (slR sl) os e with | some e' => .ok d e' | none => .bad)
  | .exc c fs os => (match backR (slR sl) os e with | some e' => .exc c fs e' | none => .bad)
  | .bad => .bad
theorem backR_some : ∀ {l : List Nat} {ds : List D} {e e' : Env}, backR l ds e = some e' → ds.length = l.length
  | [], [], _, _, _ => rfl
  | [], _ :: _, _, _, h => by cases h
  | _ :: _, [], _, _, h => by cases h
  | i :: l, d :: ds, e, e', h => by
    have := backR_some (l := l) h
    simp [this]
theorem evCall_post {F : List D → FR} {dds : List D} {sl : List (Option Nat)} {ds : List D} {e : Env} {P : D → Env → Prop} {E : EX} (h : (evCall F dds sl ds e).post P E) :
    (F (ds ++ dds)).post (fun d os => ∃ e', backR (slR sl) os e = some e' ∧ P d e') (fun c fs os => ∃ e', backR (slR sl) os e = some e' ∧ E c fs e') := by
  unfold evCall at h
  cases ef : F (ds ++ dds) with
  | bad => rw [ef] at h; exact h
  | ret d os =>
    rw [ef] at h
    cases eb : backR (slR sl) os e with
    | none => simp only [eb] at h; exact h.elim
    | some e' => simp only [eb] at h; exact ⟨e', eb, h⟩
  | exc c fs os =>
    rw [ef] at h
    cases eb : backR (slR sl) os e with
    | none => simp only [eb] at h; exact h.elim
    | some e' => simp only [eb] at h; exact ⟨e', eb, h⟩
theorem pe_call0SD {X : Cx} {CX : CXT} {k : Nat} {f : Addr} {fd : FuncData} {ps : List Str} {sp : Sp} {dvs : List V} {ds : List Value} {E : St → XK} {x : Str} {p pos : Pos} (F : FnOk X.prog X.w X.K X.mg X.base CX k f fd ps sp) (hr : Room k X.A) (hg : Gl X x) (hm : X.mg x = some (.ref f)) (hk : PySem.W.keepIn X.K (.ref f) = true)
    (hb : Binds X.K fd ps ds) (hd : Vals dvs ds) (hx : ∀ σ, PassesAt CX X σ (E σ)) (hdb : (x == ("__debug__" : Str)) = false) : PE X (.Call (.Name x p) [] [] pos) (tCallSD sp dvs E tNil) := by
  refine ⟨fun pins s σ H Q I h => ?_⟩
  exact wpAny_Call_Name_kw (ld_glob I hg hm (PySem.W.callWith_K0 I.kIn hk (run_fnSD (us := []) F hr hb hd (hx σ) I .nil h)) hdb)
theorem nostar_any {es : List Expr} {env : PySem.Env} {pos : Pos} (h : es.all notStar = true) : (backTo pos (starEach es env)).any (·.1) = false := by
  induction es with
  | nil => rfl
  | cons e es ih =>
    rw [List.all_cons] at h
    obtain ⟨h1, h2⟩ := and3 h
    have := ih h2
    rw [notStar_ok h1]
    show (false || (backTo pos (starEach es env)).any (·.1)) = false
    rw [this]
    rfl
def chkCall (x : Str) (n : Nat) (dds : List D) (r : CC) (sc : SC) (e : Expr) : Bool := match e with
  | .Call (.Name y _) (e :: es) [] _ => decide (y = x) && (chkGl sc x && (!(x == ("__debug__" : Str)) && (decide ((slR r.sl).Nodup) && (decide (r.sl.length + dds.length = n) && r.chk sc (e :: es)))))
  | _ => false
theorem call_pe {sc : SC} {X : Cx} {e : Expr} {x : Str} {n : Nat} {fr : Bool} {dds : List D} {F : List D → FR} {r : CC} {W : WX} (hc : chkCall x n dds r sc e = true) (k : XOk sc X) (q : FnRq (rq X) x n (posR 0 r.sl) fr dds F) (qr : r.req (rq X)) (tk : Takes X W) :
    ∃ dvs : List V, (∀ G, Reps X.K G dds dvs) ∧ (slR r.sl).Nodup ∧ r.sl.length + dds.length = n ∧ PE X e (tCallSD (lift X.K n (posR 0 r.sl) fr F) dvs (WE W) (tCc sc X.K r.sl r.ev W)) := by
  unfold chkCall at hc
  split at hc
  · rename_i y p e1 es pos
    obtain ⟨h1, h⟩ := and3 hc
    obtain ⟨h2, h⟩ := and3 h
    obtain ⟨h3, h⟩ := and3 h
    obtain ⟨h4, h⟩ := and3 h
    obtain ⟨h5, h6⟩ := and3 h
    have ey := of_decide_eq_true h1
    subst ey
    obtain ⟨kk, f, fd, ps, dvs, dsv, Fk, hr, hm, hk, hb, hv, hd⟩ := q
    refine ⟨dvs, hd, of_decide_eq_true h4, of_decide_eq_true h5, ?_⟩
    have pa := r.sound sc X (e1 :: es) W h6 k qr tk
    have ns := r.star sc (e1 :: es) h6
    rw [List.all_cons] at ns
    exact pe_callSD Fk hr (chkGl_ok h2 k) hm hk hb hv (fun σ => passAt tk σ) pa (by simpa using h3) (notStar_ok (and3 ns).1) (nostar_any (and3 ns).2)
  · cases hc
/-- from the wish of the pure meaning to the promise -/
theorem call_to {sc : SC} {K : Fg} {f : Fx} {L : List Addr} {G G0 H : Hp} {σ : St} {env : Env} {sl : List (Option Nat)} {ds dds : List D} {vs dvs : List V} {n : Nat} {fr : Bool} {F : List D → FR} {W : WX} {Q : VK}
    (R : Rel sc K f L G H σ env) (ar : ArgR sc K G σ env sl ds vs) (nd : (slR sl).Nodup) (hd : ∀ G, Reps K G dds dvs) (hn : sl.length + dds.length = n) (s0 : Same G0 G)
    (h : (evCall F dds sl ds env).post (fun d env' => ∀ v H' G', Rel sc K f L G' H' σ env' → Same G0 G' → (if fr = true then FrRel sc K f L G' H' σ env' d v else Rep K G' d v) → Q v H') (XW sc K f L G0 σ W)) :
    lift K n (posR 0 sl) fr F (vs ++ dvs) H Q (fun cls d H' => W cls d σ H') := by
  have h1 := evCall_post h
  refine call_core R ar nd hd (by rw [List.length_append, ← ar.len.1]; exact hn) (FR.post_mono h1 (fun d os z v H' G' env' eb R' s' r => ?_) fun c fs os z env' eb => ?_) (FR.post_mono h1 (fun d os z => ?_) fun c fs os z => ?_)
  · obtain ⟨e', e1, z⟩ := z
    rw [eb] at e1
    cases e1
    exact z v H' G' R' (s0.trans s') r
  · obtain ⟨e', e1, z⟩ := z
    rw [eb] at e1
    cases e1
    exact XW.mono s0 c fs env' z
  · obtain ⟨e', e1, _⟩ := z
    exact backR_some e1
  · obtain ⟨e', e1, _⟩ := z
    exact backR_some e1
def CE.call (x : Str) (n : Nat) (dds : List D) (F : List D → FR) (r : CC) : CE where
  chk := chkCall x n dds r
  req z := FnRq z x n (posR 0 r.sl) false dds F ∧ r.req z
  bor := none
  pur := false
  ev env := (r.ev env).bind fun ds e => evCall F dds r.sl ds e
  pok h := by cases h
  bok i h := by cases h
  sound sc X e W hc k q tk := by
    obtain ⟨dvs, hd, nd, hn, pe⟩ := call_pe hc k q.1 q.2 tk
    refine pe.imp fun σ H Q h => ?_
    obtain ⟨fx, L, G, env, R, h⟩ := h
    exact ⟨fx, L, G, env, R, AR.post_mono (AR.post_bind h) (fun ds e1 _ h vs H1 G1 R1 s1 ar => call_to R1 ar nd hd hn s1 h) fun _ _ _ h => h⟩
def CF.call (x : Str) (n : Nat) (dds : List D) (F : List D → FR) (r : CC) : CF where
  chk := chkCall x n dds r
  req z := FnRq z x n (posR 0 r.sl) true dds F ∧ r.req z
  pur := false
  ev env := (r.ev env).bind fun ds e => evCall F dds r.sl ds e
  pok h := by cases h
  sound sc X e W hc k q tk := by
    obtain ⟨dvs, hd, nd, hn, pe⟩ := call_pe hc k q.1 q.2 tk
    refine pe.imp fun σ H Q h => ?_
    obtain ⟨fx, L, G, env, R, h⟩ := h
    exact ⟨fx, L, G, env, R, AR.post_mono (AR.post_bind h) (fun ds e1 _ h vs H1 G1 R1 s1 ar => call_to R1 ar nd hd hn s1 h) fun _ _ _ h => h⟩
/-! ### calls of built-ins by values -/
/-- a call of a known value: what it gives of plain data (nothing is changed, new objects are frozen) -/
def rC (K : Fg) (f : List D → Option D) : List V → Hp → VK → Prop := fun xs H Q => ∃ G ds, Le G H ∧ Paired (fun d x => VW K G H d x) ds xs ∧ match f ds with
  | some d => ∀ v H' G', Nw G G' H H' → Rep K G' d v → Q v H'
  | none => False
structure Blt where
  x : Str
  val : Value
  f : List D → Option D
  ok : ∀ X : Cx, X.A.units + 100 < cLine → X.calm = true → CallR X val (rC X.K f)
/-- borrowed ones may stand among the arguments where none of them changes a name -/
def Bors := List (Option Nat)
def ArgB (sc : SC) (K : Fg) (G : Hp) (σ : St) (env : Env) : List (Option Nat) → List D → List V → Prop := ArgR sc K G σ env
structure CM where
  sl : List (Option Nat)
  chk : SC → List Expr → Bool
  req : Rq → Prop
  pur : Bool
  ev : Env → AR
  pok : pur = true → ∀ env d env', ev env = .ok d env' → env' = env
  sound : ∀ sc X es W, chk sc es = true → XOk sc X → req (rq X) → Takes X W → PA X es (tCc sc X.K sl ev W)
  star : ∀ sc es, chk sc es = true → es.all notStar = true
def CM.nil : CM where
  sl := []
  chk _ es := match es with | [] => true | _ => false
  req _ := True
  pur := true
  ev env := .ok [] env
  pok _ env d env' h := by cases h; rfl
  sound := CC.nil.sound
  star := CC.nil.star
def CM.cons (c : CE) (r : CM) : CM where
  sl := c.bor :: r.sl
  chk sc es := match es with | e :: es => notStar e && ((c.bor.isNone || r.pur) && (c.chk sc e && r.chk sc es)) | _ => false
  req z := c.req z ∧ r.req z
  pur := c.pur && r.pur
  ev env := (c.ev env).bindA fun d e => (r.ev e).bindA fun ds e => .ok (d :: ds) e
  pok h env d env' e := by
    obtain ⟨h1, h2⟩ := and3 h
    cases e1 : c.ev env with
    | bad => rw [e1] at e; cases e
    | exc _ _ _ => rw [e1] at e; cases e
    | ok x ex =>
      simp only [e1, ER.bindA] at e
      cases e2 : r.ev ex with
      | bad => rw [e2] at e; cases e
      | exc _ _ _ => rw [e2] at e; cases e
      | ok y ey =>
        simp only [e2, AR.bindA] at e
        cases e
        exact (r.pok h2 _ _ _ e2).trans (c.pok h1 _ _ _ e1)
  star sc es h := by
    split at h
    · obtain ⟨h1, h⟩ := and3 h
      obtain ⟨h2, h⟩ := and3 h
      obtain ⟨h3, h4⟩ := and3 h
      rw [List.all_cons, h1, r.star sc _ h4]
      rfl
    · cases h
  sound sc X e W hc k q tk := by
    split at hc
    · obtain ⟨h1, h⟩ := and3 hc
      obtain ⟨h2, h⟩ := and3 h
      obtain ⟨h3, h4⟩ := and3 h
      refine (pa_cons (c.sound sc X _ W h3 k q.1 tk) (r.sound sc X _ W h4 k q.2 tk) (notStar_ok h1)).imp fun σ H Q h => ?_
      obtain ⟨fx, L, G, env, R, h⟩ := h
      refine ⟨fx, L, G, env, R, ER.post_mono (ER.post_bindA h) (fun d e1 _ h v H1 G1 R1 s1 r1 => ?_) fun _ _ _ h => h⟩
      refine ⟨fx, L, G1, e1, R1, AR.post_mono (AR.post_bindA h) (fun ds e2 er h vs H2 G2 R2 s2 r2 => ?_) (XW.mono s1)⟩
      refine h (v :: vs) H2 G2 R2 (s1.trans s2) ⟨v, vs, rfl, ?_, r2⟩
      cases hb : c.bor with
      | none => rw [hb] at r1; exact Rep.mono (Le.of_same s2) _ _ r1
      | some i =>
        have pr : r.pur = true := by rw [hb] at h2; simpa using h2
        have := r.pok pr _ _ _ er
        subst this
        rw [hb] at r1
        exact r1
    · cases hc
theorem ArgR.vw {sc : SC} {K : Fg} {f : Fx} {L : List Addr} {G H : Hp} {σ : St} {env : Env} (R : Rel sc K f L G H σ env) : ∀ {sl : List (Option Nat)} {ds : List D} {vs : List V}, ArgR sc K G σ env sl ds vs → Paired (fun d x => VW K G H d x) ds vs
  | [], [], vs, h => by cases h; exact .nil
  | [], _ :: _, _, h => h.elim
  | _ :: _, [], _, h => h.elim
  | s :: sl, d :: ds, vs, h => by
    obtain ⟨v, r, rfl, h1, h2⟩ := h
    exact .cons (R.vw h1) (ArgR.vw R h2)
end C

set_option maxRecDepth 100000
set_option maxHeartbeats 4000000
namespace C
open PySem L2
/-! ### built-ins by their names -/
/-- what a built-in name stands for -/
inductive BV where
  | fn (id : String) | ty (T : String)
def BV.val : BV → Value
  | .fn id => .builtin id
  | .ty T => .type T
structure Bf where
  x : Str
  v : BV
  f : List D → Option D
  bx : bootBuiltins x = some v.val
  nx : x ≠ "__name__" ∧ (x == ("__debug__" : Str)) = false
  ok : ∀ X : Cx, X.A.units + 100 < cLine → CallR X v.val (rC X.K f)
def chkB (x : Str) (r : CM) (sc : SC) (e : Expr) : Bool := match e with
  | .Call (.Name y _) (e :: es) [] _ => decide (y = x) && (chkGl sc x && r.chk sc (e :: es))
  | _ => false
def CE.blt (b : Bf) (r : CM) : CE where
  chk := chkB b.x r
  req z := z.mg b.x = none ∧ r.req z
  bor := none
  pur := r.pur
  ev env := (r.ev env).bind fun ds e => optE (b.f ds) e
  pok h env d env' e := by
    cases e1 : r.ev env with
    | bad => rw [e1] at e; cases e
    | exc _ _ _ => rw [e1] at e; cases e
    | ok x ex =>
      simp only [e1, AR.bind] at e
      cases e2 : b.f x with
      | none => rw [e2] at e; cases e
      | some y => rw [e2] at e; cases e; exact r.pok h _ _ _ e1
  bok i h := by cases h
  sound sc X e W hc k q tk := by
    unfold chkB at hc
    split at hc
    · rename_i y p e1 es pos
      obtain ⟨h1, h⟩ := and3 hc
      obtain ⟨h2, h3⟩ := and3 h
      have ey := of_decide_eq_true h1
      subst ey
      have ns := r.star sc _ h3
      rw [List.all_cons] at ns
      have pe : PE X (.Call (.Name b.x p) (e1 :: es) [] pos) (tCB (rC X.K b.f) (tCc sc X.K r.sl r.ev W)) := by
        have ok := b.ok X k.un
        have bx := b.bx
        cases hv : b.v with
        | fn id => rw [hv] at ok bx; exact pe_callB ok (chkGl_ok h2 k) q.1 bx (r.sound sc X _ W h3 k q.2 tk) b.nx.1 b.nx.2 (notStar_ok (and3 ns).1) (nostar_any (and3 ns).2)
        | ty T => rw [hv] at ok bx; exact pe_callTy ok (chkGl_ok h2 k) q.1 bx (r.sound sc X _ W h3 k q.2 tk) b.nx.1 b.nx.2 (notStar_ok (and3 ns).1) (nostar_any (and3 ns).2)
      refine pe.imp fun σ H Q h => ?_
      obtain ⟨fx, L, G, env, R, h⟩ := h
      refine ⟨fx, L, G, env, R, AR.post_mono (AR.post_bind h) (fun ds e1 _ h vs H1 G1 R1 s1 ar => ?_) fun _ _ _ h => h⟩
      obtain ⟨d, ef, h⟩ := optE_post h
      refine ⟨G1, ds, R1.le, ar.vw R1, ?_⟩
      rw [ef]
      exact fun v H' G' n r => h v H' G' (R1.grow n.1 n.2.1 n.2.2.1 (n.2.2.2 R1.tab.g)) (s1.trans n.2.1) r
    · cases hc
theorem rC_some {K : Fg} {f : List D → Option D} {xs : List V} {H : Hp} {Q : VK} (h : rC K f xs H Q) : ∃ G ds d, Le G H ∧ Paired (fun d x => VW K G H d x) ds xs ∧ f ds = some d ∧ ∀ v H' G', Nw G G' H H' → Rep K G' d v → Q v H' := by
  obtain ⟨G, ds, le, p, h⟩ := h
  cases e : f ds with
  | none => rw [e] at h; exact h.elim
  | some d => rw [e] at h; exact ⟨G, ds, d, le, p, e, h⟩
theorem pair1 {K : Fg} {G H : Hp} {d : D} {xs : List V} (h : Paired (fun d x => VW K G H d x) [d] xs) : ∃ x, xs = [x] ∧ VW K G H d x := by
  cases h with
  | cons a b => cases b; exact ⟨_, rfl, a⟩
theorem pair2 {K : Fg} {G H : Hp} {d d2 : D} {xs : List V} (h : Paired (fun d x => VW K G H d x) [d, d2] xs) : ∃ x y, xs = [x, y] ∧ VW K G H d x ∧ VW K G H d2 y := by
  cases h with
  | cons a b =>
    obtain ⟨y, rfl, z⟩ := pair1 b
    exact ⟨_, _, rfl, a, z⟩
def lenD : List D → Option D
  | [.str z] => if z.length ≤ sizeLine then some (.int z.length) else none
  | [.lst l] => some (.int l.length)
  | [.tup l] => some (.int l.length)
  | [.scr l] => some (.int l.length)
  | [.dK l] => some (.int l.length)
  | _ => none
def bLen : Bf where
  x := "len"
  v := .fn "len"
  f ds := match ds with | [.dK _] => none | ds => lenD ds
  bx := PySem.boot_len
  nx := ⟨by decide, by decide⟩
  ok X _ pins s σ H xs us Q I r q0 := by
    obtain ⟨G, ds, d, le, p, e, q⟩ := rC_some q0
    clear q0
    split at e
    · cases e
    · unfold lenD at e
      split at e
      · split at e
        · rename_i hz
          cases e
          obtain ⟨x, rfl, v⟩ := pair1 p
          exact call_len pins s σ H _ us Q I r ⟨x, _, rfl, by rw [v.str]; exact ⟨hz, rfl⟩, q _ H G (Nw.refl _ _) rfl⟩
        · cases e
      · cases e
        obtain ⟨x, rfl, v⟩ := pair1 p
        obtain ⟨a, ys, rfl, hs, rr⟩ := v.lst
        exact call_len pins s σ H _ us Q I r ⟨_, _, rfl, .inl ⟨ys, SqL.of hs, rr.length⟩, q _ H G (Nw.refl _ _) rfl⟩
      · cases e
        obtain ⟨x, rfl, v⟩ := pair1 p
        obtain ⟨a, ys, rfl, hs, rr⟩ := v.tup
        exact call_len pins s σ H _ us Q I r ⟨_, _, rfl, .inr ⟨ys, hs, rr.length⟩, q _ H G (Nw.refl _ _) rfl⟩
      · cases e
        obtain ⟨x, rfl, v⟩ := pair1 p
        obtain ⟨a, rfl, hs⟩ := v.scr
        exact call_len pins s σ H _ us Q I r ⟨_, _, rfl, .inl ⟨_, hs, by rw [List.length_map]⟩, q _ H G (Nw.refl _ _) rfl⟩
      · rename_i z; exact absurd rfl (z _)
      · cases e
def bInt : Bf where
  x := "int"
  v := .ty "int"
  f ds := match ds with | [.int i] => some (.int i) | [.bl k] => some (.int (if k then 1 else 0)) | _ => none
  bx := PyProof.Rows.boot_int
  nx := ⟨by decide, by decide⟩
  ok X _ pins s σ H xs us Q I r q0 := by
    obtain ⟨G, ds, d, le, p, e, q⟩ := rC_some q0
    clear q0
    split at e
    · cases e
      obtain ⟨x, rfl, v⟩ := pair1 p
      exact call_int1 pins s σ H _ us Q I r (.inl ⟨_, by rw [v.int], q _ H G (Nw.refl _ _) rfl⟩)
    · cases e
      obtain ⟨x, rfl, v⟩ := pair1 p
      exact call_int1 pins s σ H _ us Q I r (.inr ⟨_, by rw [v.bl], q _ H G (Nw.refl _ _) rfl⟩)
    · cases e
/-! ### o[i] = e, o the object of a name -/
theorem Rel.upd {sc : SC} {K : Fg} {f : Fx} {L : List Addr} {G H : Hp} {σ : St} {env : Env} (R : Rel sc K f L G H σ env) {i : Nat} {d d' : D} {a : Addr} {o' : HO} (hi : i ∈ sc.ow) (e : env[i]? = some (some d)) (ea : σ[i]? = some (some (.ref a))) (ro : ORep K G d' o') :
    Rel sc K f L G (L2.upd H a o') σ (env.set i (some d')) := by
  obtain ⟨a', o, k1, k2, k3, k4, k5, k6, k7⟩ := R.own i d hi e
  rw [ea] at k1
  cases k1
  refine R.chg [a] (fun b u eb nb _ => ?_) (tabs_keep R.tab.tabs fun b u eb np => ?_) (fun b eb => ?_) (Same.refl _) (fun b u eb => .inl eb) (fun b hb => ?_) R.tab.g (by rw [List.length_set]) fun j dj ej => ?_
  · rw [upd_ne fun z => nb (by simp [z])]; exact eb
  · have : b ≠ a := fun z => np (by rw [z, k2] at eb; cases eb; exact k3.plain)
    rw [upd_ne this]; exact eb
  · by_cases z : b = a
    · rw [z, upd_same] at eb; cases eb
    · rw [upd_ne z] at eb; exact eb
  · have : b = a := by simpa using hb
    subst this
    exact ⟨k4, k5, k6, by rw [upd_same]; simp⟩
  · rcases set_get ej with ⟨rfl, rfl, hl⟩ | ⟨hne, ej⟩
    · exact .inr ⟨hi, ⟨d, e⟩, a, o', ea, upd_same, ro⟩
    · refine .inl ⟨ej, fun hj b sb hb => ?_⟩
      have : b = a := by simpa using hb
      subst this
      exact hne (R.dis j i dj d b hj hi ej e sb ea)
def putD {κ : Type} [DecidableEq κ] (l : List (κ × D)) (k : κ) (d : D) : List (κ × D) :=
  if (l.any fun kv => decide (kv.1 = k)) = true then l.map (fun kv => if kv.1 = k then (kv.1, d) else kv) else l ++ [(k, d)]
theorem RepK.any {K : Fg} {G : Hp} (k : Key) : ∀ {l : List (Key × D)} {xs : List (Key × V)}, RepK K G l xs → (l.any fun kv => decide (kv.1 = k)) = xs.any fun kv => decide (kv.1 = k)
  | [], xs, h => by cases h; rfl
  | (k', d) :: l, xs, h => by
    obtain ⟨x, r, rfl, h1, h2⟩ := h
    rw [List.any_cons, List.any_cons, RepK.any k h2]
theorem RepT.any {K : Fg} {G : Hp} (k : List Key) : ∀ {l : List (List Key × D)} {xs : List (List Key × V)}, RepT K G l xs → (l.any fun kv => decide (kv.1 = k)) = xs.any fun kv => decide (kv.1 = k)
  | [], xs, h => by cases h; rfl
  | (k', d) :: l, xs, h => by
    obtain ⟨x, r, rfl, h1, h2⟩ := h
    rw [List.any_cons, List.any_cons, RepT.any k h2]
theorem RepK.app {K : Fg} {G : Hp} : ∀ {l m : List (Key × D)} {xs ys : List (Key × V)}, RepK K G l xs → RepK K G m ys → RepK K G (l ++ m) (xs ++ ys)
  | [], m, xs, ys, h, k => by cases h; exact k
  | (k', d) :: l, m, xs, ys, h, k => by
    obtain ⟨x, r, rfl, h1, h2⟩ := h
    exact ⟨x, r ++ ys, rfl, h1, RepK.app h2 k⟩
theorem RepT.app {K : Fg} {G : Hp} : ∀ {l m : List (List Key × D)} {xs ys : List (List Key × V)}, RepT K G l xs → RepT K G m ys → RepT K G (l ++ m) (xs ++ ys)
  | [], m, xs, ys, h, k => by cases h; exact k
  | (k', d) :: l, m, xs, ys, h, k => by
    obtain ⟨x, r, rfl, h1, h2⟩ := h
    exact ⟨x, r ++ ys, rfl, h1, RepT.app h2 k⟩
theorem RepK.map_put {K : Fg} {G : Hp} {k : Key} {d : D} {v : V} (rd : Rep K G d v) : ∀ {l : List (Key × D)} {xs : List (Key × V)}, RepK K G l xs → RepK K G (l.map fun kv => if kv.1 = k then (kv.1, d) else kv) (xs.map fun kv => if kv.1 = k then (kv.1, v) else kv)
  | [], xs, h => by cases h; exact rfl
  | (k', d') :: l, xs, h => by
    obtain ⟨x, r, rfl, h1, h2⟩ := h
    rw [List.map_cons, List.map_cons]
    by_cases e : k' = k
    · rw [if_pos e, if_pos e]; exact ⟨v, _, rfl, rd, RepK.map_put rd h2⟩
    · rw [if_neg e, if_neg e]; exact ⟨x, _, rfl, h1, RepK.map_put rd h2⟩
theorem RepT.map_put {K : Fg} {G : Hp} {k : List Key} {d : D} {v : V} (rd : Rep K G d v) : ∀ {l : List (List Key × D)} {xs : List (List Key × V)}, RepT K G l xs → RepT K G (l.map fun kv => if kv.1 = k then (kv.1, d) else kv) (xs.map fun kv => if kv.1 = k then (kv.1, v) else kv)
  | [], xs, h => by cases h; exact rfl
  | (k', d') :: l, xs, h => by
    obtain ⟨x, r, rfl, h1, h2⟩ := h
    rw [List.map_cons, List.map_cons]
    by_cases e : k' = k
    · rw [if_pos e, if_pos e]; exact ⟨v, _, rfl, rd, RepT.map_put rd h2⟩
    · rw [if_neg e, if_neg e]; exact ⟨x, _, rfl, h1, RepT.map_put rd h2⟩
theorem RepK.put {K : Fg} {G : Hp} {l : List (Key × D)} {xs : List (Key × V)} {k : Key} {d : D} {v : V} (h : RepK K G l xs) (rd : Rep K G d v) : RepK K G (putD l k d) (putK xs k v) := by
  unfold putD putK
  rw [RepK.any k h]
  split
  · exact RepK.map_put rd h
  · exact RepK.app h ⟨v, [], rfl, rd, rfl⟩
theorem RepT.put {K : Fg} {G : Hp} {l : List (List Key × D)} {xs : List (List Key × V)} {k : List Key} {d : D} {v : V} (h : RepT K G l xs) (rd : Rep K G d v) : RepT K G (putD l k d) (putK xs k v) := by
  unfold putD putK
  rw [RepT.any k h]
  split
  · exact RepT.map_put rd h
  · exact RepT.app h ⟨v, [], rfl, rd, rfl⟩
theorem Reps.set {K : Fg} {G : Hp} {d : D} {v : V} (rd : Rep K G d v) : ∀ {l : List D} {xs : List V} (j : Nat), Reps K G l xs → Reps K G (l.set j d) (xs.set j v)
  | [], xs, j, h => by cases h; exact rfl
  | d0 :: l, xs, j, h => by
    obtain ⟨x, r, rfl, h1, h2⟩ := h
    cases j with
    | zero => exact ⟨v, r, rfl, rd, h2⟩
    | succ j => exact ⟨x, _, rfl, h1, Reps.set rd j h2⟩
/-- a container with an item stored -/
def storeD : D → D → D → Option D
  | .lst l, .int i, d => (ixN l.length i).map fun j => .lst (l.set j d)
  | .dK l, k, d => if l.length < sizeLine then (keyD k).map fun k => .dK (putD l k d) else none
  | .dT l, k, d => if l.length < sizeLine then (tkeyD k).map fun k => .dT (putD l k d) else none
  | _, _, _ => none
def rSt : TSet := fun o i v H Q => rSetL o i v H Q ∨ ∃ a H', o = .ref a ∧ DPut H a i v H' ∧ Q H'
theorem set_any {X : Cx} (hu : X.A.units + 100 < cLine) : PSet X rSt := by
  intro pins s σ H o i v ov iv u Q I ro ri rv h
  rcases h with h | ⟨a, H', rfl, g, q⟩
  · exact set_list pins s σ H o i v ov iv u Q I ro ri rv h
  · cases ro
    exact d_setItem (by omega) I g ri rv fun s' I' => ⟨H', I', q⟩
theorem storeD_ok {sc : SC} {K : Fg} {f : Fx} {L : List Addr} {G H : Hp} {σ : St} {env : Env} {i : Nat} {c kd d c' : D} {a : Addr} {kv v : V} {Q : Hp → Prop} (R : Rel sc K f L G H σ env) (hi : i ∈ sc.ow) (e : env[i]? = some (some c)) (ea : σ[i]? = some (some (.ref a)))
    (rk : Rep K G kd kv) (rd : Rep K G d v) (es : storeD c kd d = some c') (q : ∀ H', Rel sc K f L G H' σ (env.set i (some c')) → Q H') : rSt (.ref a) kv v H Q := by
  obtain ⟨a', o, k1, k2, k3, _⟩ := R.own i c hi e
  rw [ea] at k1
  cases k1
  have vk : VW K G H kd kv := ⟨R.le, .inl rk⟩
  unfold storeD at es
  split at es
  · obtain ⟨m, e1, rfl⟩ := Option.map_eq_some_iff.mp es
    obtain ⟨xs, rfl, rr⟩ := k3
    exact .inl ⟨a, xs, _, m, rfl, rk, k2, by rw [← rr.length]; exact e1, q _ (R.upd hi e ea ⟨_, rfl, rr.set rd m⟩)⟩
  · split at es
    · rename_i l k d hz
      obtain ⟨m, e1, rfl⟩ := Option.map_eq_some_iff.mp es
      obtain ⟨xs, rfl, rr⟩ := k3
      exact .inr ⟨a, _, rfl, .inl ⟨xs, m, k2, vk.key e1, by rw [← rr.length]; exact hz, rfl⟩, q _ (R.upd hi e ea ⟨_, rfl, rr.put rd⟩)⟩
    · cases es
  · split at es
    · rename_i l k d hz
      obtain ⟨m, e1, rfl⟩ := Option.map_eq_some_iff.mp es
      obtain ⟨xs, rfl, rr⟩ := k3
      obtain ⟨b, eb, hb⟩ := vk.tkey e1
      exact .inr ⟨a, _, rfl, .inr ⟨xs, m, b, k2, eb, hb, by rw [← rr.length]; exact hz, rfl⟩, q _ (R.upd hi e ea ⟨_, rfl, rr.put rd⟩)⟩
    · cases es
  · cases es
def evSet (i : Nat) (ix : CE) (d : D) (e1 : Env) : SR := match e1[i]? with
  | some (some _) => (ix.ev e1).bindS fun k e2 => match e2[i]? with
    | some (some c) => (match storeD c k d with | some c' => .nx (e2.set i (some c')) | none => .bad)
    | _ => .bad
  | _ => .bad
theorem evSet_post {i : Nat} {ix : CE} {d : D} {e1 : Env} {w : Wn} (h : (evSet i ix d e1).post w) : (∃ c0, e1[i]? = some (some c0)) ∧ (ix.ev e1).post (fun k e2 => ∃ c c', e2[i]? = some (some c) ∧ storeD c k d = some c' ∧ w.nx (e2.set i (some c'))) w.ex := by
  unfold evSet at h
  split at h
  · rename_i c0 e0
    refine ⟨⟨c0, e0⟩, ER.post_mono (ER.post_bindS h) (fun k e2 _ h => ?_) fun _ _ _ h => h⟩
    split at h
    · rename_i c ec
      split at h
      · rename_i c' es
        exact ⟨c, c', ec, es, h⟩
      · exact h.elim
    · exact h.elim
  · exact h.elim
def CS.setIx (i : Nat) (ix c : CE) : CS where
  chk sc e := match e with | .Assign [.Subscript (.Name x _) y _] v _ => noComp v && (notSlice y && (c.bor.isNone && (ix.bor.isNone && (chkVar sc i x && (sc.ow.contains i && (c.chk sc v && ix.chk sc y)))))) | _ => false
  req z := c.req z ∧ ix.req z
  ev env := (c.ev env).bindS fun d e1 => evSet i ix d e1
  sound sc X e W hc k q tk _ := by
    split at hc
    · rename_i x p y ps v pos
      obtain ⟨h1, h⟩ := and3 hc
      obtain ⟨h2, h⟩ := and3 h
      obtain ⟨h3, h⟩ := and3 h
      obtain ⟨h4, h⟩ := and3 h
      obtain ⟨h5, h⟩ := and3 h
      obtain ⟨h6, h⟩ := and3 h
      obtain ⟨h7, h8⟩ := and3 h
      have ho : i ∈ sc.ow := by simpa using h6
      have b1 : c.bor = none := by simpa using h3
      have b2 : ix.bor = none := by simpa using h4
      have hsw : swapsWithSole [.Subscript (.Name x p) y ps] v pos.line X.env = pure false := by
        show swapsWith v (some (.Subscript (.Name x p) y ps)) pos.line X.env = pure false
        exact noComp_ok h1
      refine (ps_asg (c.sound sc X v W h7 k q.1 tk) (pg_sub (chkVar_ok h5 k) (ix.sound sc X y W h8 k q.2 tk) (set_any k.un) (fun v => by cases y <;> first | rfl | cases h2)) hsw rfl rfl).imp fun D σ H h => ?_
      obtain ⟨fx, L, G, env, R, h⟩ := h
      refine ⟨fx, L, G, env, R, ER.post_mono (ER.post_bindS h) (fun d e1 _ h v H1 G1 R1 s1 r1 => ?_) (XWs.at σ)⟩
      rw [b1] at r1
      obtain ⟨⟨c0, e0⟩, h⟩ := evSet_post h
      obtain ⟨a, o, m1, _⟩ := R1.own i c0 ho e0
      refine ⟨_, m1, fx, L, G1, e1, R1, ER.post_mono h (fun kd e2 _ z kv H2 G2 R2 s2 r2 => ?_) fun c fs e h => XW.mono s1 c fs e (XWs.at σ c fs e h)⟩
      rw [b2] at r2
      obtain ⟨cc, c', ec, es, z⟩ := z
      exact storeD_ok R2 ho ec m1 r2 (Rep.mono (Le.of_same s2) _ _ r1) es fun H' R' => z σ H' G2 R' (s1.trans s2)
    · cases hc
end C

set_option maxRecDepth 100000
set_option maxHeartbeats 4000000
namespace C
open PySem L2
/-! ### attributes -/
def notSup : Expr → Bool
  | .Call (.Name x _) [] [] _ => x != "super"
  | _ => true
theorem notSup_ok {o : Expr} {m : Str} {env : PySem.Env} {wh : Sem Value} (h : notSup o = true) : attributeBase o m env wh = wh := by
  unfold attributeBase
  split
  · rename_i x p pos
    have h : (x != "super") = true := h
    simp only [h, Bool.true_or, if_true]
  · rfl
def lookD (fs : List (Str × D)) (f : Str) : Option D := fs.lookup f
theorem RepF.look {K : Fg} {G : Hp} (f : Str) : ∀ {l : List (Str × D)} {xs : List (Str × V)}, RepF K G l xs → (lookD l f = none ∧ xs.lookup f = none) ∨ ∃ d v, lookD l f = some d ∧ xs.lookup f = some v ∧ Rep K G d v
  | [], xs, h => by cases h; exact .inl ⟨rfl, rfl⟩
  | (k, d) :: l, xs, h => by
    obtain ⟨x, r, rfl, h1, h2⟩ := h
    unfold lookD
    rw [List.lookup_cons, List.lookup_cons]
    cases f == k with
    | true => exact .inr ⟨d, x, rfl, rfl, h1⟩
    | false => exact RepF.look f h2
/-- what is asked of a class whose attribute f is read or stored -/
def FldRq (r : Rq) (c f : Str) : Prop := Cls r.K (ga r.K c) ∧ NoAttr r.K (ga r.K c) f
def allRq (cs : List Str) (p : Str → Prop) : Prop := match cs with | [] => True | c :: cs => p c ∧ allRq cs p
theorem allRq_mem {p : Str → Prop} : ∀ {cs : List Str} {c : Str}, allRq cs p → c ∈ cs → p c
  | [], _, _, h => by cases h
  | d :: cs, c, a, h => by
    rcases List.mem_cons.mp h with rfl | h
    · exact a.1
    · exact allRq_mem a.2 h
def fldD (cs : List Str) (f : Str) : D → Option D
  | .ins c fs => if c ∈ cs then lookD fs f else none
  | _ => none
def CE.fld (cs : List Str) (a : CE) (f : Str) : CE where
  chk sc e := match e with | .Attribute o g _ => decide (g = f) && (notSup o && a.chk sc o) | _ => false
  req r := allRq cs (fun c => FldRq r c f) ∧ a.req r
  bor := none
  pur := a.pur
  ev env := (a.ev env).bind fun d e => optE (fldD cs f d) e
  pok h env d env' e := by
    cases e1 : a.ev env with
    | bad => rw [e1] at e; cases e
    | exc _ _ _ => rw [e1] at e; cases e
    | ok x ex =>
      simp only [e1, ER.bind] at e
      cases e2 : fldD cs f x with
      | none => rw [e2] at e; cases e
      | some y => rw [e2] at e; cases e; exact a.pok h _ _ _ e1
  bok i h := by cases h
  sound sc X e W hc k q tk := by
    split at hc
    · rename_i o g pos
      obtain ⟨h1, h⟩ := and3 hc
      obtain ⟨h2, h3⟩ := and3 h
      have eg := of_decide_eq_true h1
      subst eg
      refine (pe_fld (a.sound sc X o W h3 k q.2 tk) (notSup_ok h2)).imp fun σ H Q h => ?_
      obtain ⟨fx, L, G, env, R, h⟩ := h
      refine ⟨fx, L, G, env, R, ER.post_mono (ER.post_bind h) (fun d e1 _ h x H1 G1 R1 s1 v1 => ?_) fun _ _ _ h => h⟩
      obtain ⟨y, ey, hh⟩ := optE_post h
      clear h
      unfold fldD at ey
      split at ey
      · rename_i c fs
        split at ey
        · rename_i hm
          obtain ⟨p, dx, xs, ex, hp, rr⟩ := (R1.vw v1).ins
          obtain ⟨cl, na⟩ := allRq_mem q.1 hm
          rcases rr.look g with ⟨z, _⟩ | ⟨d', v, z1, z2, z3⟩
          · rw [z] at ey; cases ey
          · rw [z1] at ey
            cases ey
            exact ⟨p, _, dx, xs, v, ex, hp, cl, na, z2, hh v H1 G1 R1 s1 z3⟩
        · cases ey
      · cases ey
    · cases hc
def putFD (f : Str) (v : D) : List (Str × D) → List (Str × D)
  | [] => [(f, v)]
  | (g, x) :: r => if g = f then (g, v) :: r else (g, x) :: putFD f v r
theorem RepF.put {K : Fg} {G : Hp} {f : Str} {d : D} {v : V} (rd : Rep K G d v) : ∀ {l : List (Str × D)} {xs : List (Str × V)}, RepF K G l xs → RepF K G (putFD f d l) (putF f v xs)
  | [], xs, h => by cases h; exact ⟨v, [], rfl, rd, rfl⟩
  | (k, d0) :: l, xs, h => by
    obtain ⟨x, r, rfl, h1, h2⟩ := h
    unfold putFD putF
    by_cases e : k = f
    · rw [if_pos e, if_pos e]; exact ⟨v, r, rfl, rd, h2⟩
    · rw [if_neg e, if_neg e]; exact ⟨x, _, rfl, h1, RepF.put rd h2⟩
theorem RepF.length {K : Fg} {G : Hp} : ∀ {l : List (Str × D)} {xs : List (Str × V)}, RepF K G l xs → l.length = xs.length
  | [], xs, h => by cases h; rfl
  | (k, d) :: l, xs, h => by
    obtain ⟨x, r, rfl, h1, h2⟩ := h
    simp [RepF.length h2]
/-- name.f = value, the name's object its own -/
def CS.setFld (i : Nat) (cl f : Str) (c : CE) : CS where
  chk sc e := match e with | .Assign [.Attribute (.Name x _) g _] v _ => decide (g = f) && (noComp v && (c.bor.isNone && (chkVar sc i x && (sc.ow.contains i && c.chk sc v)))) | _ => false
  req r := FldRq r cl f ∧ c.req r
  ev env := (c.ev env).bindS fun d e => match e[i]? with
    | some (some (.ins c' fs)) => if c' = cl ∧ fs.length < 1000 then .nx (e.set i (some (.ins c' (putFD f d fs)))) else .bad
    | _ => .bad
  sound sc X e W hc k q tk _ := by
    split at hc
    · rename_i x p g ap v pos
      obtain ⟨h1, h⟩ := and3 hc
      obtain ⟨h2, h⟩ := and3 h
      obtain ⟨h3, h⟩ := and3 h
      obtain ⟨h4, h⟩ := and3 h
      obtain ⟨h5, h6⟩ := and3 h
      have eg := of_decide_eq_true h1
      subst eg
      have hb : c.bor = none := by simpa using h3
      have ho : i ∈ sc.ow := by simpa using h5
      refine (ps_fld (chkVar_ok h4 k) (c.sound sc X v W h6 k q.2 tk) (noComp_ok h2)).imp fun D σ H h => ?_
      obtain ⟨fx, L, G, env, R, h⟩ := h
      refine ⟨fx, L, G, env, R, ER.post_mono (ER.post_bindS h) (fun d e1 _ hz y H1 G1 R1 s1 r1 => ?_) (XWs.at σ)⟩
      clear h
      rw [hb] at r1
      split at hz
      · rename_i c' fs ei
        split at hz
        · rename_i hcl
          obtain ⟨rfl, hl⟩ := hcl
          obtain ⟨a, o, m1, m2, m3, _⟩ := R1.own i _ ho ei
          obtain ⟨dx, xs, rfl, rr⟩ := id m3
          refine ⟨_, m1, a, _, dx, xs, rfl, m2, q.1.1, q.1.2, by rw [← rr.length]; exact hl, ?_⟩
          exact hz σ _ G1 (R1.upd ho ei m1 ⟨dx, _, rfl, rr.put r1⟩) s1
        · exact hz.elim
      · exact hz.elim
    · cases hc
/-! ### o.m(..) of an own class -/
theorem eval_meth {o : Expr} {m : Str} {apos pos : Pos} {args : List Expr} {env : PySem.Env} (hb : notSup o = true) (hn : args.all notStar = true) (hl : args.length < 30) (hp : (apos.endLine == pos.line) = true) :
    eval (.Call (.Attribute o m apos) args [] pos) env = (do
      let ov ← eval o env
      standAt apos.atName
      let (f, first) ← holding [ov] (getMethod ov m (do return (← importBound o env).getD true))
      callWith pos f first (backTo pos (starEach args env)) (backToKw pos (keywordEach [] env))) := by
  have few : methodCallForm (args.length + ([] : List Keyword).length) (backTo pos (starEach args env)) (backToKw pos (keywordEach [] env)) = true := by
    have ha : (backTo pos (starEach args env)).all (!·.1) = true := by
      rw [List.all_eq_true]
      intro x hx
      have := nostar_any (env := env) (pos := pos) hn
      rw [List.any_eq_false] at this
      simpa using this x hx
    unfold methodCallForm
    rw [ha]
    show (true && true && decide (args.length + 0 + 0 < 30)) = true
    rw [decide_eq_true (by omega : args.length + 0 + 0 < 30)]
    rfl
  rw [PySem.arm_eval_Call, notSup_ok hb]
  unfold methodCall calleeOf methodCallPos
  rw [few, hp]
  rfl
/-- a method of an own class as the caller knows it -/
def MeRq (r : Rq) (c m : Str) (n : Nat) (rf : List Nat) (fr : Bool) (dds : List D) (F : List D → FR) : Prop := ∃ k f fd ps dvs ds, FnOk r.prog r.w r.K r.mg r.base (L2.CX r.prog r.w) k f fd ps (lift r.K n rf fr F) ∧ Room k r.A ∧
  Cls r.K (ga r.K c) ∧ Meth r.K (ga r.K c) m f ∧ Binds r.K fd ps ds ∧ Vals dvs ds ∧ ∀ G, Reps r.K G dds dvs
def tMe (C : Addr) (m : Str) (sp : Sp) (dvs : List V) (E : St → XK) (ta : TE) (t : TA) : TE := fun σ H Q => ta σ H fun x H1 => ∃ a dx fs, x = .ref a ∧ H1 a = some (.ins C dx fs) ∧ fs.lookup m = none ∧ t σ H1 fun vs H2 => sp (x :: (vs ++ dvs)) H2 Q (E σ)
theorem pe_me {X : Cx} {CX : CXT} {k : Nat} {f C : Addr} {fd : FuncData} {ps : List Str} {sp : Sp} {dvs : List V} {ds : List Value} {E : St → XK} {m : Str} {pos apos : Pos} {o : Expr} {es : List Expr} {ta : TE} {t : TA}
    (he : PE X o ta) (c : Cls X.K C) (hm : Meth X.K C m f) (F : FnOk X.prog X.w X.K X.mg X.base CX k f fd ps sp) (hr : Room k X.A) (hb : Binds X.K fd ps ds) (hd : Vals dvs ds) (hx : ∀ σ, PassesAt CX X σ (E σ)) (ha : PA X es t)
    (h0 : es = [] → ∀ σ H Q, t σ H Q → Q [] H)
    (g1 : notSup o = true) (g2 : es.all notStar = true) (g3 : es.length < 30) (g4 : (apos.endLine == pos.line) = true) :
    PE X (.Call (.Attribute o m apos) es [] pos) (tMe C m sp dvs E ta t) := by
  refine ⟨fun pins s σ H Q I h => PySem.W.methodCall_KW (thn (he.run pins s σ H _ I h) fun u s1 z => ?_) (eval_meth g1 g2 g3 g4)⟩
  obtain ⟨x, H1, I1, rx, a, dx, fs, ex, ea, l, q⟩ := z
  subst ex
  cases rx
  refine getmeth_ok I1 ea c hm l ?_
  cases es with
  | nil => exact PySem.W.callWith_K0 (first := [.ref a]) I1.kIn hm.kp (run_fnSD (us := [.ref a]) (vs := [.ref a]) F hr hb hd (hx σ) I1 (.cons rfl .nil) (h0 rfl σ H1 _ q))
  | cons e es =>
    rw [List.all_cons] at g2
    refine PySem.W.callWith_K (first := [.ref a]) (h₀ := X.base) I.ok.mod.kin hm.kp (thn (ha.run pos pins s1 σ H1 _ I1 q) fun us s2 z => ?_) (notStar_ok (and3 g2).1) (nostar_any (and3 g2).2)
    obtain ⟨vs, H2, I2, rv, q2⟩ := z
    exact ⟨I2.kIn, run_fnSD (us := .ref a :: us) (vs := .ref a :: vs) F hr hb hd (hx σ) I2 (.cons rfl rv) q2⟩
/-- the arguments' list, empty or not -/
structure CX2 where
  cc : CC
  nil : ∀ sc K W σ H Q, cc.sl = [] → tCc sc K cc.sl cc.ev W σ H Q → Q [] H
theorem cc_nil {sc : SC} {K : Fg} {W : WX} (σ : St) (H : Hp) (Q : List V → Hp → Prop) (h : tCc sc K CC.nil.sl CC.nil.ev W σ H Q) : Q [] H := by
  obtain ⟨fx, L, G, env, R, h⟩ := h
  exact h [] H G R (Same.refl _) rfl
def insLook (c m : Str) : D → Bool
  | .ins c' fs => decide (c' = c) && (lookD fs m).isNone
  | _ => false
def chkMe (m : Str) (n : Nat) (dds : List D) (o : CE) (r : CC) (sl : List (Option Nat)) (sc : SC) (e : Expr) : Bool := match e with
  | .Call (.Attribute x y ap) es [] p => decide (y = m) && (notSup x && (o.chk sc x && (decide (es.length < 30) && ((ap.endLine == p.line) && (decide ((slR sl).Nodup) && (decide (sl.length + dds.length = n) && r.chk sc es))))))
  | _ => false
/-- what is known of the argument lists that may be empty -/
def EmptyOk (r : CC) : Prop := ∀ sc es, r.chk sc es = true → es = [] → ∀ K W σ H Q, tCc sc K r.sl r.ev W σ H Q → Q [] H
theorem emptyOk_nil : EmptyOk CC.nil := fun sc es _ _ K W σ H Q h => cc_nil σ H Q h
theorem emptyOk_val (c : CE) (r : CC) : EmptyOk (CC.val c r) := fun sc es h e => by subst e; cases h
theorem emptyOk_ref (i : Nat) (r : CC) : EmptyOk (CC.ref i r) := fun sc es h e => by subst e; cases h
theorem me_core {sc : SC} {X : Cx} {e : Expr} {c m : Str} {n : Nat} {fr : Bool} {dds : List D} {F : List D → FR} {o : CE} {r : CC} {W : WX} {sl : List (Option Nat)} {rf : List Nat} (hc : chkMe m n dds o r sl sc e = true) (k : XOk sc X) (q : MeRq (rq X) c m n rf fr dds F) (qo : o.req (rq X)) (qr : r.req (rq X)) (em : EmptyOk r) (tk : Takes X W) :
    ∃ dvs : List V, (∀ G, Reps X.K G dds dvs) ∧ (slR sl).Nodup ∧ sl.length + dds.length = n ∧ PE X e (tMe (ga X.K c) m (lift X.K n rf fr F) dvs (WE W) (tE sc X.K o.bor o.ev W) (tCc sc X.K r.sl r.ev W)) := by
  unfold chkMe at hc
  split at hc
  · obtain ⟨h1, h⟩ := and3 hc
    obtain ⟨h2, h⟩ := and3 h
    obtain ⟨h3, h⟩ := and3 h
    obtain ⟨h4, h⟩ := and3 h
    obtain ⟨h5, h⟩ := and3 h
    obtain ⟨h6, h⟩ := and3 h
    obtain ⟨h7, h8⟩ := and3 h
    have ey := of_decide_eq_true h1
    subst ey
    obtain ⟨kk, f, fd, ps, dvs, dsv, Fk, hr, cl, hm, hb, hv, hd⟩ := q
    refine ⟨dvs, hd, of_decide_eq_true h6, of_decide_eq_true h7, ?_⟩
    exact pe_me (o.sound sc X _ W h3 k qo tk) cl hm Fk hr hb hv (fun σ => passAt tk σ) (r.sound sc X _ W h8 k qr tk) (fun ee σ H Q t => em sc _ h8 ee X.K W σ H Q t) h2 (r.star sc _ h8) (of_decide_eq_true h4) h5
  · cases hc
/-- o.m(..), o frozen -/
def evMe (c m : Str) (F : List D → FR) (dds : List D) (sl : List (Option Nat)) (o : CE) (r : CC) (env : Env) : ER :=
  (o.ev env).bind fun d e => if insLook c m d = true then (r.ev e).bind fun ds e => evCall F dds (none :: sl) (d :: ds) e else .bad
theorem me_to {sc : SC} {K : Fg} {c m : Str} {n : Nat} {fr : Bool} {dds : List D} {F : List D → FR} {o : CE} {r : CC} {W : WX} {dvs : List V} (hd : ∀ G, Reps K G dds dvs) (nd : (slR (none :: r.sl)).Nodup) (hn : (none :: r.sl).length + dds.length = n) (hb : o.bor = none) (σ : St) (H : Hp) (Q : VK)
    (h : ∃ f L G env, Rel sc K f L G H σ env ∧ (evMe c m F dds r.sl o r env).post (fun d env' => ∀ v H' G', Rel sc K f L G' H' σ env' → Same G G' → (if fr = true then FrRel sc K f L G' H' σ env' d v else Rep K G' d v) → Q v H') (XW sc K f L G σ W)) :
    tMe (ga K c) m (lift K n (posR 0 (none :: r.sl)) fr F) dvs (WE W) (tE sc K o.bor o.ev W) (tCc sc K r.sl r.ev W) σ H Q := by
  obtain ⟨fx, L, G, env, R, h⟩ := h
  refine ⟨fx, L, G, env, R, ER.post_mono (ER.post_bind h) (fun d e1 _ hz x H1 G1 R1 s1 v1 => ?_) fun _ _ _ h => h⟩
  clear h
  rw [hb] at v1
  by_cases hi : insLook c m d = true
  · rw [if_pos hi] at hz
    unfold insLook at hi
    split at hi
    · rename_i c' fs
      obtain ⟨g1, g2⟩ := and3 hi
      have ec := of_decide_eq_true g1
      subst ec
      obtain ⟨p, dx, xs, ex, hp, rr⟩ := (R1.vw (bor := none) v1).ins
      refine ⟨p, dx, xs, ex, hp, ?_, fx, L, G1, e1, R1, AR.post_mono (AR.post_bind hz) (fun ds e2 _ h vs H2 G2 R2 s2 ar => ?_) (XW.mono s1)⟩
      · rcases rr.look m with ⟨_, z⟩ | ⟨d', v, z1, _⟩
        · exact z
        · rw [z1] at g2; cases g2
      · exact call_to (vs := x :: vs) R2 (show ArgR sc K G2 σ e2 (none :: r.sl) (_ :: ds) (x :: vs) from ⟨x, vs, rfl, Rep.mono (Le.of_same s2) _ _ v1, ar⟩) nd hd hn (s1.trans s2) h
    · cases hi
  · rw [if_neg hi] at hz; exact hz.elim
def CE.meth (c m : Str) (n : Nat) (dds : List D) (F : List D → FR) (o : CE) (r : CC) (em : EmptyOk r) : CE where
  chk sc e := o.bor.isNone && chkMe m n dds o r (none :: r.sl) sc e
  req z := MeRq z c m n (posR 0 (none :: r.sl)) false dds F ∧ o.req z ∧ r.req z
  bor := none
  pur := false
  ev := evMe c m F dds r.sl o r
  pok h := by cases h
  bok i h := by cases h
  sound sc X e W hc k q tk := by
    obtain ⟨h1, h2⟩ := and3 hc
    obtain ⟨dvs, hd, nd, hn, pe⟩ := me_core h2 k q.1 q.2.1 q.2.2 em tk
    exact pe.imp fun σ H Q h => me_to hd nd hn (by simpa using h1) σ H Q h
def CF.meth (c m : Str) (n : Nat) (dds : List D) (F : List D → FR) (o : CE) (r : CC) (em : EmptyOk r) : CF where
  chk sc e := o.bor.isNone && chkMe m n dds o r (none :: r.sl) sc e
  req z := MeRq z c m n (posR 0 (none :: r.sl)) true dds F ∧ o.req z ∧ r.req z
  pur := false
  ev := evMe c m F dds r.sl o r
  pok h := by cases h
  sound sc X e W hc k q tk := by
    obtain ⟨h1, h2⟩ := and3 hc
    obtain ⟨dvs, hd, nd, hn, pe⟩ := me_core h2 k q.1 q.2.1 q.2.2 em tk
    exact pe.imp fun σ H Q h => me_to hd nd hn (by simpa using h1) σ H Q h
/-- o.m(..), o the object of slot i, handed by reference -/
def evMeR (c m : Str) (F : List D → FR) (dds : List D) (i : Nat) (r : CC) (env : Env) : ER := match env[i]? with
  | some (some d0) => if insLook c m d0 = true then (r.ev env).bind fun ds e => (match e[i]? with | some (some d) => evCall F dds (some i :: r.sl) (d :: ds) e | _ => .bad) else .bad
  | _ => .bad
def CE.methR (c m : Str) (n : Nat) (dds : List D) (F : List D → FR) (i : Nat) (r : CC) (em : EmptyOk r) : CE where
  chk sc e := sc.ow.contains i && chkMe m n dds (CE.bvar i) r (some i :: r.sl) sc e
  req z := MeRq z c m n (posR 0 (some i :: r.sl)) false dds F ∧ r.req z
  bor := none
  pur := false
  ev := evMeR c m F dds i r
  pok h := by cases h
  bok i h := by cases h
  sound sc X e W hc k q tk := by
    obtain ⟨h1, h2⟩ := and3 hc
    have ho : i ∈ sc.ow := by simpa using h1
    obtain ⟨dvs, hd, nd, hn, pe⟩ := me_core h2 k q.1 trivial q.2 em tk
    refine pe.imp fun σ H Q h => ?_
    obtain ⟨fx, L, G, env, R, h⟩ := h
    unfold evMeR at h
    split at h
    · rename_i d0 e0
      by_cases hi : insLook c m d0 = true
      · rw [if_pos hi] at h
        unfold insLook at hi
        split at hi
        · rename_i c' fs
          obtain ⟨g1, g2⟩ := and3 hi
          have ec := of_decide_eq_true g1
          subst ec
          obtain ⟨a, o, m1, m2, m3, _⟩ := R.own i _ ho e0
          refine ⟨fx, L, G, env, R, ?_⟩
          show (evVar i env).post _ _
          unfold evVar
          rw [e0]
          intro x H1 G1 R1 s1 v1
          obtain ⟨_, w2, w3⟩ := v1
          obtain ⟨a', o', n1, n2, n3, _⟩ := R1.own i _ ho w2
          rw [w3] at n1
          cases n1
          obtain ⟨dx, xs, rfl, rr⟩ := id n3
          refine ⟨a', dx, xs, rfl, n2, ?_, fx, L, G1, env, R1, AR.post_mono (AR.post_bind h) (fun ds e2 _ hz vs H2 G2 R2 s2 ar => ?_) (XW.mono s1)⟩
          · rcases rr.look m with ⟨_, z⟩ | ⟨d', v, z1, _⟩
            · exact z
            · rw [z1] at g2; cases g2
          · split at hz
            · rename_i d ed
              exact call_to (vs := .ref a' :: vs) R2 (show ArgR sc X.K G2 σ e2 (some i :: r.sl) (d :: ds) (.ref a' :: vs) from ⟨_, vs, rfl, ⟨ho, ed, w3⟩, ar⟩) nd hd hn (s1.trans s2) hz
            · exact hz.elim
        · cases hi
      · rw [if_neg hi] at h; exact h.elim
    · exact h.elim
end C

set_option maxRecDepth 100000
set_option maxHeartbeats 4000000
namespace C
open PySem L2
/-! ### properties -/
def ER.noexc (r : ER) : ER := match r with | .exc _ _ _ => .bad | r => r
theorem ER.noexc_post {r : ER} {P : D → Env → Prop} {E E' : EX} (h : r.noexc.post P E) : r.post P E' := by
  cases r with
  | ok d e => exact h
  | exc _ _ _ => exact h.elim
  | bad => exact h
def PrRq (r : Rq) (c f : Str) (fr : Bool) (F : List D → FR) : Prop := ∃ k p g fd ps, FnOk r.prog r.w r.K r.mg r.base (L2.CX r.prog r.w) k g fd ps (lift r.K 1 [] fr F) ∧ Room (k + 1) r.A ∧ Cls r.K (ga r.K c) ∧ PropOf r.K (ga r.K c) f p g ∧ Binds r.K fd ps []
def isIns (c : Str) : D → Bool
  | .ins c' _ => decide (c' = c)
  | _ => false
def evPr (c : Str) (F : List D → FR) (o : CE) (env : Env) : ER := (o.ev env).bind fun d e => if isIns c d = true then (evCall F [] [none] [d] e).noexc else .bad
theorem pr_to {sc : SC} {X : Cx} {e : Expr} {c f : Str} {fr : Bool} {F : List D → FR} {o : CE} {W : WX} (hc : (match e with | .Attribute x g _ => decide (g = f) && (notSup x && (o.bor.isNone && o.chk sc x)) | _ => false) = true) (k : XOk sc X) (q : PrRq (rq X) c f fr F) (qo : o.req (rq X)) (tk : Takes X W) :
    PE X e (fun σ H Q => ∃ fx L G env, Rel sc X.K fx L G H σ env ∧ (evPr c F o env).post (fun d env' => ∀ v H' G', Rel sc X.K fx L G' H' σ env' → Same G G' → (if fr = true then FrRel sc X.K fx L G' H' σ env' d v else Rep X.K G' d v) → Q v H') (XW sc X.K fx L G σ W)) := by
  split at hc
  · rename_i x g pos
    obtain ⟨h1, h⟩ := and3 hc
    obtain ⟨h2, h⟩ := and3 h
    obtain ⟨h3, h4⟩ := and3 h
    have eg := of_decide_eq_true h1
    subst eg
    obtain ⟨kk, p, ge, fd, ps, Fk, hr, cl, hp, hb⟩ := q
    have hbo : o.bor = none := by simpa using h3
    refine (pe_prop (o.sound sc X x W h4 k qo tk) cl hp Fk hr hb .nil (E := fun _ _ _ => False) (fun _ _ _ _ _ _ _ z => ?_) (notSup_ok h2)).imp fun σ H Q h => ?_
    · obtain ⟨_, _, _, _, _, _, _, _, _, _, _, _, z⟩ := z
      exact z.elim
    · obtain ⟨fx, L, G, env, R, h⟩ := h
      refine ⟨fx, L, G, env, R, ER.post_mono (ER.post_bind h) (fun d e1 _ hz x H1 G1 R1 s1 v1 => ?_) fun _ _ _ h => h⟩
      clear h
      rw [hbo] at v1
      by_cases hi : isIns c d = true
      · rw [if_pos hi] at hz
        unfold isIns at hi
        split at hi
        · have ec := of_decide_eq_true hi
          subst ec
          obtain ⟨a, dx, xs, ex, ha, rr⟩ := (R1.vw (bor := none) v1).ins
          refine ⟨a, dx, xs, ex, ha, ?_⟩
          have := call_to (W := fun _ _ _ _ => False) (dds := []) (dvs := []) (vs := [x]) (n := 1) R1 (show ArgR sc X.K G1 σ e1 [none] [_] [x] from ⟨x, [], rfl, v1, rfl⟩) (by decide) (fun G => rfl) rfl s1 (ER.noexc_post hz)
          rw [← ex]
          exact this
        · cases hi
      · rw [if_neg hi] at hz; exact hz.elim
  · cases hc
def CE.prop (c f : Str) (F : List D → FR) (o : CE) : CE where
  chk sc e := match e with | .Attribute x g _ => decide (g = f) && (notSup x && (o.bor.isNone && o.chk sc x)) | _ => false
  req r := PrRq r c f false F ∧ o.req r
  bor := none
  pur := false
  ev := evPr c F o
  pok h := by cases h
  bok i h := by cases h
  sound sc X e W hc k q tk := (pr_to hc k q.1 q.2 tk).imp fun σ H Q h => h
def CF.prop (c f : Str) (F : List D → FR) (o : CE) : CF where
  chk sc e := match e with | .Attribute x g _ => decide (g = f) && (notSup x && (o.bor.isNone && o.chk sc x)) | _ => false
  req r := PrRq r c f true F ∧ o.req r
  pur := false
  ev := evPr c F o
  pok h := by cases h
  sound sc X e W hc k q tk := (pr_to hc k q.1 q.2 tk).imp fun σ H Q h => h
/-! ### C(..) -/
section
variable {sc : SC} {K : Fg} {f : Fx} {L : List Addr} {G H : Hp} {σ : St} {env : Env}
theorem app_get {α : Type} {l : List (Option α)} {x y : α} {i : Nat} (h : (l ++ [some x])[i]? = some (some y)) : (i = l.length ∧ y = x) ∨ (i < l.length ∧ l[i]? = some (some y)) := by
  by_cases hi : i < l.length
  · rw [List.getElem?_append_left hi] at h; exact .inr ⟨hi, h⟩
  · rw [List.getElem?_append_right (by omega)] at h
    cases e : i - l.length with
    | zero => rw [e] at h; simp at h; exact .inl ⟨by omega, h.symm⟩
    | succ n => rw [e] at h; simp at h
def push (sc : SC) (n : Nat) : SC := { sc with ow := n :: sc.ow }
theorem Rel.push (R : Rel sc K f L G H σ env) {d : D} {v : V} (fr : FrRel sc K f L G H σ env d v) : Rel (C.push sc σ.length) K f L G H (σ ++ [some v]) (env ++ [some d]) := by
  obtain ⟨a, o, rfl, ho, ro, ga, fa, la, ba, na⟩ := fr
  have hle := R.len
  have how := R.lim
  have hpar : ∀ p ∈ sc.rp, p < σ.length := fun p hp => how p (R.rpo p hp)
  refine ⟨R.sub, R.frm, R.new, R.g0, R.dom, R.lk, by rw [List.length_append, List.length_append, hle]; rfl, fun i e hi h => ?_, fun i e hi h => ?_, fun i j di dj b hi hj ei ej si sj => ?_, fun p hp => ?_, fun p hp => List.mem_cons_of_mem _ (R.rpo p hp), fun p hp => ?_, R.gf, R.tab⟩
  · rcases app_get h with ⟨rfl, _⟩ | ⟨hl, h⟩
    · exact absurd (by show env.length ∈ σ.length :: sc.ow; rw [hle]; exact List.mem_cons_self) hi
    · obtain ⟨w, h1, h2⟩ := R.frz i e (fun z => hi (List.mem_cons_of_mem _ z)) h
      exact ⟨w, by rw [List.getElem?_append_left (by rw [← hle]; exact hl)]; exact h1, h2⟩
  · rcases app_get h with ⟨rfl, rfl⟩ | ⟨hl, h⟩
    · exact ⟨a, o, by rw [hle]; simp, ho, ro, ga, fa, la, .inr ba⟩
    · have hi' : i ∈ sc.ow := (List.mem_cons.mp hi).resolve_left fun z => by omega
      obtain ⟨b, u, h1, h2⟩ := R.own i e hi' h
      exact ⟨b, u, by rw [List.getElem?_append_left (by rw [← hle]; exact hl)]; exact h1, h2⟩
  · have own : ∀ (i : Nat) (d : D), i ∈ σ.length :: sc.ow → i < env.length → i ∈ sc.ow := fun i d hi hl => (List.mem_cons.mp hi).resolve_left fun z => by omega
    rcases app_get ei with ⟨rfl, rfl⟩ | ⟨hl, ei'⟩
    · rcases app_get ej with ⟨rfl, _⟩ | ⟨hl2, ej'⟩
      · rfl
      · exfalso
        rw [hle] at si
        have e1 : (Option.some (V.ref a)) = some (.ref b) := by simpa using si
        cases e1
        rw [List.getElem?_append_left (by rw [← hle]; exact hl2)] at sj
        exact na j dj (own j dj hj hl2) ej' sj
    · rw [List.getElem?_append_left (by rw [← hle]; exact hl)] at si
      rcases app_get ej with ⟨rfl, rfl⟩ | ⟨hl2, ej'⟩
      · exfalso
        rw [hle] at sj
        have e1 : (Option.some (V.ref a)) = some (.ref b) := by simpa using sj
        cases e1
        exact na i di (own i di hi hl) ei' si
      · rw [List.getElem?_append_left (by rw [← hle]; exact hl2)] at sj
        exact R.dis i j di dj b (own i di hi hl) (own j dj hj hl2) ei' ej' si sj
  · rw [List.getElem?_append_left (hpar p hp)]
    exact R.par p hp
  · rw [List.length_append]
    rcases List.mem_cons.mp hp with rfl | hp
    · exact Nat.lt_succ_self _
    · exact Nat.lt_succ_of_lt (how p hp)
theorem Rel.pop {d : D} {v : V} (R : Rel (C.push sc σ.length) K f L G H (σ ++ [some v]) (env ++ [some d])) (hl : env.length = σ.length) (hpar : ∀ p ∈ sc.rp, p < σ.length) (how : ∀ p ∈ sc.ow, p < σ.length) (hb : ∀ a, v = .ref a → f.B a = none) : Rel sc K f L G H σ env ∧ FrRel sc K f L G H σ env d v := by
  have getE : ∀ i x, env[i]? = some x → (env ++ [some d])[i]? = some x := fun i x e => by
    rw [List.getElem?_append_left (List.getElem?_eq_some_iff.mp e).1]; exact e
  have lt : ∀ i x, env[i]? = some x → i < σ.length := fun i x e => by rw [← hl]; exact (List.getElem?_eq_some_iff.mp e).1
  have getS : ∀ i, i < σ.length → (σ ++ [some v])[i]? = σ[i]? := fun i h => List.getElem?_append_left h
  constructor
  · refine ⟨R.sub, R.frm, R.new, R.g0, R.dom, R.lk, hl, fun i e hi h => ?_, fun i e hi h => ?_, fun i j di dj b hi hj ei ej si sj => ?_, fun p hp => ?_, fun p hp => ?_, how, R.gf, R.tab⟩
    · obtain ⟨w, h1, h2⟩ := R.frz i e (fun z => (List.mem_cons.mp z).elim (fun z => by have := lt i _ h; omega) hi) (getE i _ h)
      exact ⟨w, by rw [← getS i (lt i _ h)]; exact h1, h2⟩
    · obtain ⟨b, u, h1, h2⟩ := R.own i e (List.mem_cons_of_mem _ hi) (getE i _ h)
      exact ⟨b, u, by rw [← getS i (lt i _ h)]; exact h1, h2⟩
    · exact R.dis i j di dj b (List.mem_cons_of_mem _ hi) (List.mem_cons_of_mem _ hj) (getE i _ ei) (getE j _ ej) (by rw [getS i (lt i _ ei)]; exact si) (by rw [getS j (lt j _ ej)]; exact sj)
    · rw [← getS p (hpar p hp)]; exact R.par p hp
    · exact (List.mem_cons.mp (R.rpo p hp)).resolve_left fun z => by have := hpar p hp; omega
  · obtain ⟨a, o, h1, h2, h3, h4, h5, h6, h7⟩ := R.own σ.length d List.mem_cons_self (by rw [← hl]; simp)
    have ev : v = .ref a := by simpa using h1
    subst ev
    refine ⟨a, o, rfl, h2, h3, h4, h5, h6, hb a rfl, fun i d' hi ei si => ?_⟩
    have hlt := lt i _ ei
    have := R.dis i σ.length d' d a (List.mem_cons_of_mem _ hi) List.mem_cons_self (getE i _ ei) (by rw [← hl]; simp) (by rw [getS i hlt]; exact si) (by simp)
    omega
end
theorem backR_app : ∀ {l : List Nat} {ds : List D} {e e' : Env} {x : Option D}, (∀ i ∈ l, i < e.length) → backR l ds (e ++ [x]) = some e' → ∃ e1, backR l ds e = some e1 ∧ e' = e1 ++ [x] ∧ e1.length = e.length
  | [], [], e, e', x, _, h => by cases h; exact ⟨e, rfl, rfl, rfl⟩
  | [], _ :: _, _, _, _, _, h => by cases h
  | _ :: _, [], _, _, _, _, h => by cases h
  | i :: l, d :: ds, e, e', x, hl, h => by
    have hi := hl i List.mem_cons_self
    have h' : backR l ds ((e ++ [x]).set i (some d)) = some e' := h
    rw [List.set_append_left _ _ hi] at h'
    obtain ⟨e1, h1, h2, h3⟩ := backR_app (e := e.set i (some d)) (fun j hj => by rw [List.length_set]; exact hl j (List.mem_cons_of_mem _ hj)) h'
    exact ⟨e1, h1, h2, by rw [h3, List.length_set]⟩
/-! a new instance and its __init__ -/
def MkRq (r : Rq) (c : Str) (n : Nat) (rf : List Nat) (dds : List D) (F : List D → FR) : Prop := ∃ k f fd ps dvs ds, FnOk r.prog r.w r.K r.mg r.base (L2.CX r.prog r.w) k f fd ps (lift r.K n rf false F) ∧ Room (k + 1) r.A ∧
  Mk r.K (ga r.K c) f ∧ Binds r.K fd ps ds ∧ Vals dvs ds ∧ ∀ G, Reps r.K G dds dvs
/-- F is the __init__: the new object goes by reference ahead of the arguments -/
def evMk (c : Str) (F : List D → FR) (dds : List D) (sl : List (Option Nat)) (ds : List D) (e : Env) : ER := match F (.ins c [] :: (ds ++ dds)) with
  | .ret .non (d :: os) => (match backR (slR sl) os e with | some e' => .ok d e' | none => .bad)
  | .exc c fs (_ :: os) => (match backR (slR sl) os e with | some e' => .exc c fs e' | none => .bad)
  | _ => .bad
theorem evMk_post {c : Str} {F : List D → FR} {dds : List D} {sl : List (Option Nat)} {ds : List D} {e : Env} {P : D → Env → Prop} {E : EX} (h : (evMk c F dds sl ds e).post P E) :
    (F (.ins c [] :: (ds ++ dds))).post (fun d os => d = .non ∧ ∃ d' os', os = d' :: os' ∧ ∃ e', backR (slR sl) os' e = some e' ∧ P d' e') (fun c fs os => ∃ d' os', os = d' :: os' ∧ ∃ e', backR (slR sl) os' e = some e' ∧ E c fs e') := by
  unfold evMk at h
  cases ef : F (.ins c [] :: (ds ++ dds)) with
  | bad => rw [ef] at h; exact h
  | ret d os =>
    rw [ef] at h
    cases d <;> cases os <;> try exact h.elim
    rename_i d' os'
    cases eb : backR (slR sl) os' e with
    | none => simp only [eb] at h; exact h.elim
    | some e' => simp only [eb] at h; exact ⟨rfl, d', os', rfl, e', eb, h⟩
  | exc c' fs os =>
    rw [ef] at h
    cases os with
    | nil => exact h.elim
    | cons d' os' =>
      cases eb : backR (slR sl) os' e with
      | none => simp only [eb] at h; exact h.elim
      | some e' => simp only [eb] at h; exact ⟨d', os', rfl, e', eb, h⟩
theorem ArgR.push {sc : SC} {K : Fg} {G : Hp} {σ : St} {env : Env} {v : V} {d : D} (hl : env.length = σ.length) : ∀ {sl : List (Option Nat)} {ds : List D} {vs : List V}, ArgR sc K G σ env sl ds vs → ArgR (C.push sc σ.length) K G (σ ++ [some v]) (env ++ [some d]) sl ds vs
  | [], [], vs, h => h
  | [], _ :: _, _, h => h.elim
  | _ :: _, [], _, h => h.elim
  | s :: sl, x :: ds, vs, h => by
    obtain ⟨w, r, rfl, h1, h2⟩ := h
    refine ⟨w, r, rfl, ?_, ArgR.push hl h2⟩
    cases s with
    | none => exact h1
    | some i =>
      obtain ⟨k1, k2, k3⟩ := h1
      exact ⟨List.mem_cons_of_mem _ k1, by rw [List.getElem?_append_left (List.getElem?_eq_some_iff.mp k2).1]; exact k2, by rw [List.getElem?_append_left (List.getElem?_eq_some_iff.mp k3).1]; exact k3⟩
theorem ArgR.lt {sc : SC} {K : Fg} {G : Hp} {σ : St} {env : Env} : ∀ {sl : List (Option Nat)} {ds : List D} {vs : List V}, ArgR sc K G σ env sl ds vs → ∀ i ∈ slR sl, i < env.length
  | [], [], vs, h => fun i hi => by simp [slR] at hi
  | [], _ :: _, _, h => h.elim
  | _ :: _, [], _, h => h.elim
  | s :: sl, x :: ds, vs, h => fun i hi => by
    obtain ⟨w, r, rfl, h1, h2⟩ := h
    cases s with
    | none => exact ArgR.lt h2 i (by simpa [slR] using hi)
    | some j =>
      rcases (by simpa [slR] using hi : i = j ∨ i ∈ slR sl) with rfl | hi
      · exact (List.getElem?_eq_some_iff.mp h1.2.1).1
      · exact ArgR.lt h2 i hi
theorem mk_to {sc : SC} {K : Fg} {f : Fx} {L : List Addr} {G G0 H : Hp} {σ : St} {env : Env} {sl : List (Option Nat)} {ds dds : List D} {vs dvs : List V} {n : Nat} {c : Str} {F : List D → FR} {W : WX} {Q : VK} {x dx : Addr}
    (R : Rel sc K f L G H σ env) (ar : ArgR sc K G σ env sl ds vs) (nd : (slR sl).Nodup) (hd : ∀ G, Reps K G dds dvs) (hn : sl.length + 1 + dds.length = n) (s0 : Same G0 G) (hx : H x = none) (hdx : H dx = none) (hne : dx ≠ x)
    (h : (evMk c F dds sl ds env).post (fun d env' => ∀ v H' G', Rel sc K f L G' H' σ env' → Same G0 G' → FrRel sc K f L G' H' σ env' d v → Q v H') (XW sc K f L G0 σ W)) :
    lift K n (posR 0 (some σ.length :: sl)) false F (.ref x :: (vs ++ dvs)) (L2.upd (L2.upd H dx (.own x)) x (.ins (ga K c) dx [])) (fun v H2 => v = .non ∧ Q (.ref x) H2) (fun cls d H' => W cls d σ H') := by
  have R1 : Rel sc K f L G (L2.upd H dx (.own x)) σ env := R.grow (same_upd hdx) (Same.refl _) (fun a o e => .inl e) R.tab.g
  have hx1 : L2.upd H dx (.own x) x = none := by rw [upd_ne hne.symm]; exact hx
  obtain ⟨R2, fr⟩ := R1.fresh (o := .ins (ga K c) dx []) (d := .ins c []) hx1 ⟨dx, [], rfl, rfl⟩
  have how := R.lim
  have hpar : ∀ p ∈ sc.rp, p < σ.length := fun p hp => how p (R.rpo p hp)
  have R3 := R2.push fr
  have hB : ∀ a, V.ref x = .ref a → f.B a = none := fun a e => by cases e; exact R.dom x hx
  have hslt := ar.lt
  have hrl := R.len
  have ar3 : ArgR (C.push sc σ.length) K G (σ ++ [some (.ref x)]) (env ++ [some (D.ins c [])]) (some σ.length :: sl) (.ins c [] :: ds) (.ref x :: vs) := ⟨_, vs, rfl, ⟨List.mem_cons_self, by rw [← hrl]; simp, by simp⟩, ar.push hrl⟩
  have nd3 : (slR (some σ.length :: sl)).Nodup := by
    have : slR (some σ.length :: sl) = σ.length :: slR sl := by simp [slR]
    rw [this]
    exact List.nodup_cons.mpr ⟨fun z => by have := hslt _ z; omega, nd⟩
  have h1 := evMk_post h
  have bk : ∀ d' os' env3, backR (slR (some σ.length :: sl)) (d' :: os') (env ++ [some (D.ins c [])]) = some env3 → ∃ e1, backR (slR sl) os' env = some e1 ∧ env3 = e1 ++ [some d'] ∧ e1.length = σ.length := fun d' os' env3 e => by
    have e0 : slR (some σ.length :: sl) = σ.length :: slR sl := by simp [slR]
    rw [e0] at e
    have e' : backR (slR sl) os' ((env ++ [some (D.ins c [])]).set σ.length (some d')) = some env3 := e
    have es : (env ++ [some (D.ins c [])]).set σ.length (some d') = env ++ [some d'] := by rw [← hrl]; simp
    rw [es] at e'
    obtain ⟨e1, z1, z2, z3⟩ := backR_app hslt e'
    exact ⟨e1, z1, z2, by rw [z3, hrl]⟩
  have := call_core (K := K) (dds := dds) (dvs := dvs) (n := n) (fr := false) (F := F) (W := fun cls d _ H' => W cls d σ H') (Q := fun v H2 => v = .non ∧ Q (.ref x) H2) R3 ar3 nd3 hd (by
      have := ar.len.1
      simp only [List.length_append, List.length_cons]
      omega) (FR.post_mono h1 (fun d os z v H' G' env' eb R' s' r => ?_) fun c fs os z env' eb => ?_) (FR.post_mono h1 (fun d os z => ?_) fun c fs os z => ?_)
  · exact this
  · obtain ⟨rfl, d', os', rfl, e', e1, z⟩ := z
    obtain ⟨e2, z1, rfl, z3⟩ := bk d' os' env' eb
    rw [e1] at z1
    cases z1
    obtain ⟨Rp, frp⟩ := R'.pop z3 hpar how hB
    exact ⟨r, z (.ref x) H' G' Rp (s0.trans s') frp⟩
  · obtain ⟨d', os', rfl, e', e1, z⟩ := z
    obtain ⟨e2, z1, rfl, z3⟩ := bk d' os' env' eb
    rw [e1] at z1
    cases z1
    intro H' G' cls dd R' s' xr
    obtain ⟨Rp, _⟩ := R'.pop z3 hpar how hB
    exact z H' G' cls dd Rp (s0.trans s') xr
  · obtain ⟨_, d', os', rfl, e', e1, _⟩ := z
    have := backR_some e1
    simp [slR] at this ⊢
    exact this
  · obtain ⟨d', os', rfl, e', e1, _⟩ := z
    have := backR_some e1
    simp [slR] at this ⊢
    exact this
end C

set_option maxRecDepth 100000
set_option maxHeartbeats 4000000
namespace C
open PySem L2
/-- C(..) by values; what is raised is wished for at the slots -/
theorem run_mk {X : Cx} {T : CXT} {k : Nat} {f Cl : Addr} {fd : FuncData} {ps : List Str} {sp : Sp} {dvs : List V} {dv : List Value} {E : XK} {pins : List (Addr × Obj)} {σ : St} {H : Hp} {s : Shared} {Q : VK} {us : List Value} {vs : List V}
    (M : Mk X.K Cl f) (F : FnOk X.prog X.w X.K X.mg X.base T k f fd ps sp) (hr : Room (k + 1) X.A) (hb : Binds X.K fd ps dv) (hd : Vals dvs dv) (hx : PassesAt T X σ E) (I : Inv X pins σ H s) (rv : Vals vs us)
    (h : ∀ x dx, H x = none → H dx = none → dx ≠ x → sp (.ref x :: (vs ++ dvs)) (L2.upd (L2.upd H dx (.own x)) x (.ins Cl dx [])) (fun v H2 => v = .non ∧ Q (.ref x) H2) E) : wpAny (model X.prog X.w) X.A (call (.ref Cl) us) (EP X pins σ Q) X.xe s := by
  let n := s.heap.objs.size
  have q := h (n + 1) n (I.hok.fresh (Nat.le_succ _)) (I.hok.fresh (Nat.le_refl _)) (Nat.ne_of_lt (Nat.lt_succ_self _))
  have J := Inv.made (C := Cl) I
  have rv2 : Vals (V.ref (n + 1) :: (vs ++ dvs)) (Value.ref (n + 1) :: (us ++ dv)) := .cons rfl (rv.append hd)
  have ln : (Value.ref (n + 1) :: us ++ dv).length = ps.length := by
    have e := F.len _ _ _ _ q
    rw [rv2.length] at e
    exact e
  have bt := hb _ (Value.ref (n + 1) :: us) J.kIn ln
  have go := F.run _ X.stack _ _ ⟨Value.ref (n + 1) :: us, []⟩ (Value.ref (n + 1) :: (us ++ dv)) _ _ E (hr.make Cl us []) (J.env0.make Cl us []) bt rv2 q
  refine wpAny_call (make_map (f := f) I.kIn M.makes M.init (beq_iff_eq.mp M.fn) (codeAny_mono go fun r s' z => ?_))
  match r, z with
  | .error e, z => exact hx pins _ _ e s' J z
  | .ok (.ret u), z =>
    obtain ⟨v, H', J', rv', ev, q'⟩ := J.after z
    subst ev
    exact ⟨rv', ⟨V.ref (n + 1), H', J', rfl, q'⟩⟩
  | .ok .next, z => exact z.elim
  | .ok .brk, z => exact z.elim
  | .ok .cont, z => exact z.elim
def tMk (Cl : Addr) (sp : Sp) (dvs : List V) (E : St → XK) (t : TA) : TE := fun σ H Q => t σ H fun vs H1 => ∀ x dx, H1 x = none → H1 dx = none → dx ≠ x →
  sp (.ref x :: (vs ++ dvs)) (L2.upd (L2.upd H1 dx (.own x)) x (.ins Cl dx [])) (fun v H2 => v = .non ∧ Q (.ref x) H2) (E σ)
theorem pe_mk {X : Cx} {T : CXT} {k : Nat} {f Cl : Addr} {fd : FuncData} {ps : List Str} {sp : Sp} {dvs : List V} {dv : List Value} {E : St → XK} {fe : Expr} {es : List Expr} {t : TA} {pos : Pos}
    (M : Mk X.K Cl f) (F : FnOk X.prog X.w X.K X.mg X.base T k f fd ps sp) (hr : Room (k + 1) X.A) (hb : Binds X.K fd ps dv) (hd : Vals dvs dv) (hx : ∀ σ, PassesAt T X σ (E σ)) (ha : PA X es t) (h0 : es = [] → ∀ σ H Q, t σ H Q → Q [] H) (ns : es.all notStar = true)
    (hf : ∀ (pins : List (Addr × Obj)) (s : Shared) (σ : St) (H : Hp) (Q : Value → Shared → Prop), Inv X pins σ H s → wpAny (model X.prog X.w) X.A (callWith pos (.ref Cl) [] (backTo pos (starEach es X.env)) (backToKw pos (keywordEach [] X.env))) Q X.xe s → wpAny (model X.prog X.w) X.A (eval (.Call fe es [] pos) X.env) Q X.xe s) :
    PE X (.Call fe es [] pos) (tMk Cl sp dvs E t) := by
  refine ⟨fun pins s σ H Q I h => hf pins s σ H _ I ?_⟩
  cases es with
  | nil => exact PySem.W.callWith_K0 I.kIn M.kp (run_mk (us := []) M F hr hb hd (hx σ) I .nil (h0 rfl σ H _ h))
  | cons e es =>
    rw [List.all_cons] at ns
    refine PySem.W.callWith_K (h₀ := X.base) I.ok.mod.kin M.kp (thn (ha.run pos pins s σ H _ I h) fun us s2 z => ?_) (notStar_ok (and3 ns).1) (nostar_any (and3 ns).2)
    obtain ⟨vs, H2, I2, rv, q2⟩ := z
    exact ⟨I2.kIn, run_mk M F hr hb hd (hx σ) I2 rv q2⟩
def chkMk (ok : SC → Expr → Bool) (n : Nat) (dds : List D) (r : CC) (sc : SC) (e : Expr) : Bool := match e with
  | .Call fe es [] _ => ok sc fe && (decide ((slR r.sl).Nodup) && (decide (r.sl.length + 1 + dds.length = n) && r.chk sc es))
  | _ => false
/-- the positions of what goes by reference to __init__: the new object, then those of the arguments -/
def mkRf (sl : List (Option Nat)) : List Nat := 0 :: posR 1 sl
theorem mkRf_eq (sl : List (Option Nat)) (m : Nat) : posR 0 (some m :: sl) = mkRf sl := rfl
theorem mk_core {sc : SC} {X : Cx} {e : Expr} {c : Str} {n : Nat} {dds : List D} {F : List D → FR} {r : CC} {W : WX} {ok : SC → Expr → Bool} (hc : chkMk ok n dds r sc e = true) (k : XOk sc X) (q : MkRq (rq X) c n (mkRf r.sl) dds F) (qr : r.req (rq X)) (em : EmptyOk r) (tk : Takes X W)
    (hok : ∀ fe es pos, ok sc fe = true → ∀ (pins : List (Addr × Obj)) (s : Shared) (σ : St) (H : Hp) (Q : Value → Shared → Prop), Inv X pins σ H s → wpAny (model X.prog X.w) X.A (callWith pos (.ref (ga X.K c)) [] (backTo pos (starEach es X.env)) (backToKw pos (keywordEach [] X.env))) Q X.xe s → wpAny (model X.prog X.w) X.A (eval (.Call fe es [] pos) X.env) Q X.xe s) :
    PE X e (tF sc X.K (fun env => (r.ev env).bind fun ds e => evMk c F dds r.sl ds e) W) := by
  unfold chkMk at hc
  split at hc
  · obtain ⟨h1, h⟩ := and3 hc
    obtain ⟨h2, h⟩ := and3 h
    obtain ⟨h3, h4⟩ := and3 h
    obtain ⟨kk, f, fd, ps, dvs, dsv, Fk, hr, M, hb, hv, hd⟩ := q
    refine (pe_mk M Fk hr hb hv (fun σ => passAt tk σ) (r.sound sc X _ W h4 k qr tk) (fun ee σ H Q t => em sc _ h4 ee X.K W σ H Q t) (r.star sc _ h4) (hok _ _ _ h1)).imp fun σ H Q h => ?_
    obtain ⟨fx, L, G, env, R, h⟩ := h
    refine ⟨fx, L, G, env, R, AR.post_mono (AR.post_bind h) (fun ds e1 _ h vs H1 G1 R1 s1 ar x dx hx hdx hne => ?_) fun _ _ _ h => h⟩
    exact mk_to R1 ar (of_decide_eq_true h2) hd (of_decide_eq_true h3) s1 hx hdx hne h
  · cases hc
/-- C(..), C a class by its name -/
def CF.make (c : Str) (n : Nat) (dds : List D) (F : List D → FR) (r : CC) (em : EmptyOk r) : CF where
  chk sc e := !(c == ("__debug__" : Str)) && chkMk (fun sc fe => match fe with | .Name y _ => decide (y = c) && chkGl sc c | _ => false) n dds r sc e
  req z := MkRq z c n (mkRf r.sl) dds F ∧ z.mg c = some (.ref (ga z.K c)) ∧ r.req z
  pur := false
  ev env := (r.ev env).bind fun ds e => evMk c F dds r.sl ds e
  pok h := by cases h
  sound sc X e W hc k q tk := by
    obtain ⟨h1, h2⟩ := and3 hc
    refine mk_core h2 k q.1 q.2.2 em tk fun fe es pos hfe pins s σ H Q I h => ?_
    split at hfe
    · obtain ⟨g1, g2⟩ := and3 hfe
      have ey := of_decide_eq_true g1
      subst ey
      exact wpAny_Call_Name_kw (ld_glob I (chkGl_ok g2 k) q.2.1 h (by simpa using h1))
    · cases hfe
/-! ### == of instances by an own __eq__ -/
def EqRq (r : Rq) (c : Str) (F : List D → FR) : Prop := ∃ k f fd ps, FnOk r.prog r.w r.K r.mg r.base (L2.CX r.prog r.w) k f fd ps (lift r.K 2 [] false F) ∧ Room k r.A ∧ PySem.W.findIn r.K (.ref (ga r.K c)) "__eq__" = some (some (.ref f)) ∧ PySem.W.isFn r.K (.ref f) = true ∧ Binds r.K fd ps [] ∧
  PySem.W.notFirst r.K (ga r.K c) (.type "str") = true ∧ PySem.W.notFirst r.K (ga r.K c) (.type "NoneType") = true ∧ PySem.W.notFirst r.K (ga r.K c) (.type "tuple") = true
/-- what the other side may be: an instance of the same class, a text, None, a tuple -/
def eqOther (c : Str) : D → Bool
  | .ins c' _ => decide (c' = c)
  | .str _ => true
  | .non => true
  | .tup _ => true
  | _ => false
def eqI (c : Str) (F : List D → FR) (x y : D) : Option Bool := if isIns c x && eqOther c y then (match F [x, y] with | .ret (.bl b) [] => some b | _ => none) else none
theorem pass_none {X : Cx} (σ : St) : PassesAt (L2.CX X.prog X.w) X σ (fun _ _ _ => False) := fun _ _ _ _ _ _ z => by
  obtain ⟨_, _, _, _, _, _, _, _, _, _, _, _, z⟩ := z
  exact z.elim
/-- kept but for the tables -/
structure Kp (K : Fg) (H H' : Hp) : Prop where
  kp : ∀ a o, H a = some o → (∀ ps, o ≠ .tbl ps) → H' a = some o
  tabs : LamX.Tabs (lamT K) H'
  dom : ∀ a, H' a = none → H a = none
theorem Rel.growT {sc : SC} {K : Fg} {f : Fx} {L : List Addr} {G H H' : Hp} {σ : St} {env : Env} (R : Rel sc K f L G H σ env) (k : Kp K H H') : Rel sc K f L G H' σ env :=
  R.chg [] (fun a o e _ nt => k.kp a o e nt) k.tabs k.dom (Same.refl _) (fun a o e => .inl e) (fun a h => by cases h) R.tab.g rfl fun i d e => .inl ⟨e, fun _ _ _ h => by cases h⟩
theorem Le.ntb {G H : Hp} (le : Le G H) (n : noTb G) : noTb (seen G H) := fun a ps e => by
  unfold seen at e
  cases eg : G a with
  | none => rw [eg] at e; cases e
  | some w =>
    rw [eg] at e
    have e : H a = some (.tbl ps) := e
    have rd : ∀ u, isD u → Rd G a u → False := fun u hu r => by
      rcases le.dd a u hu r with z | ⟨ob, z⟩
      · rw [z] at e; rcases hu with ⟨x, rfl⟩ | ⟨x, rfl⟩ <;> cases e
      · rw [z] at e; cases e
    by_cases nd : notD w
    · rw [le.ex a w nd eg] at e; exact n a ps (eg.trans e)
    · by_cases m : isD w
      · exact rd w m (.inl eg)
      · have : ∃ ob u, w = .frz ob u ∧ isD u := Classical.byContradiction fun hh => nd ⟨m, fun ob u e1 e2 => hh ⟨ob, u, e1, e2⟩⟩
        obtain ⟨ob, u, rfl, hu⟩ := this
        exact rd u hu (.inr ⟨ob, eg⟩)
theorem lift_pure {K : Fg} {n : Nat} {F : List D → FR} {G H : Hp} {ds : List D} {vs : List V} {d : D} {Q : VK} {E : XK} (hn : ds.length = n) (hG : ∀ a o, G a = some o → H a = some o) (rr : Reps K G ds vs) (hF : F ds = .ret d []) (ht : LamX.Tabs (lamT K) H) (hg : noTb G) (h : ∀ v H' G', Kp K H H' → Same G G' → (∀ a o, G' a = some o → G a = some o ∨ (H a = none ∧ H' a = some o) ∨ (isTp o ∧ H' a = some o)) → Rep K G' d v → Q v H') :
    lift K n [] false F vs H Q E := by
  refine ⟨G, ds, hn, hG, ⟨rr.length, fun i e _ ei => rr.at ei, (fun i e hi _ => by cases hi), (fun i j a hi => by cases hi), ht, hg⟩, ?_⟩
  rw [hF]
  intro v H' G' O r
  refine h v H' G' ⟨fun a o e nt => O.frm a o e (fun z => ?_) nt, O.tabs, O.dom⟩ O.same (fun a o e => (O.new a o e).imp id fun z => z.imp (fun z => ⟨z, O.sub a o e⟩) fun z => ⟨z, O.sub a o e⟩) r
  obtain ⟨p, hp, _⟩ := z
  cases hp
/-- what of the heap is told of two values of plain data, exactly -/
theorem Le.exact {K : Fg} {G H : Hp} (le : Le G H) : ∃ G1, (∀ a o, G1 a = some o → H a = some o) ∧ Le G G1 ∧ (∀ a, G a = none → G1 a = none) ∧ (noTb G → noTb G1) := by
  refine ⟨seen G H, fun a o e => ?_, ?_, fun a e => by unfold seen; rw [e], le.ntb⟩
  · unfold seen at e
    cases eg : G a with
    | none => rw [eg] at e; cases e
    | some w => rw [eg] at e; exact e
  · have key : ∀ a o, G a = some o → seen G H a = H a := fun a o e => by unfold seen; rw [e]
    refine ⟨fun a o n e => by rw [key a o e]; exact le.ex a o n e, fun a u n r => ?_⟩
    have := le.dd a u n r
    rcases r with e | ⟨o, e⟩
    · unfold Rd; rw [key a _ e]; exact this
    · unfold Rd; rw [key a _ e]; exact this
theorem op_eqI {X : Cx} {c : Str} {F : List D → FR} (hu : X.A.units + 100 < cLine) (q : EqRq (rq X) c F) : OpR X (compareOp .Eq) (fun x y H Q => ∃ G dx dy b, (Le G H ∧ LamX.Tabs (lamT X.K) H ∧ noTb G) ∧ Rep X.K G dx x ∧ Rep X.K G dy y ∧ eqI c F dx dy = some b ∧ ∀ H', Kp X.K H H' → Q (.bl b) H') := by
  intro pins s σ H x y v u Q I rx ry z
  obtain ⟨G, dx, dy, b, ⟨le, tb0, ng⟩, r1, r2, e, hq⟩ := z
  obtain ⟨kk, f, fd, ps, Fk, hr, hs, hf, hb, n1, n2, n3⟩ := q
  unfold eqI at e
  split at e
  · rename_i hi
    obtain ⟨g1, g2⟩ := and3 hi
    split at e
    · rename_i b' eF
      cases e
      obtain ⟨G1, hG1, le1, _, n1'⟩ := le.exact (K := X.K)
      have sp : lift X.K 2 [] false F [x, y] H (fun v H' => v = .bl b ∧ Q (.bl b) H') (fun _ _ _ => False) := lift_pure (ds := [dx, dy]) rfl hG1 ⟨x, [y], rfl, Rep.mono le1 _ _ r1, y, [], rfl, Rep.mono le1 _ _ r2, rfl⟩ eF tb0 (n1' ng) fun v H' G' s1 _ _ rv => ⟨rv, hq H' s1⟩
      cases dx with
      | ins c' fs =>
        have ec : c' = c := of_decide_eq_true g1
        subst ec
        obtain ⟨a, ddx, xs, rfl, ha, _⟩ := id r1
        have ha' := le.ex _ _ (notD_ins _ _ _) ha
        cases rx
        obtain ⟨mA, J, _⟩ := ins_get I.hok ha'
        obtain ⟨od, J, _⟩ := J.look
        obtain ⟨m, hF⟩ := I.fr
        have tyb : ∃ tb, PySem.W.Looks (model X.prog X.w) s.heap (typeOf u) tb ∧ PySem.W.notFirst X.K (ga X.K c') tb = true := by
          cases dy with
          | ins c2 fs2 =>
            have ec2 : c2 = c' := of_decide_eq_true g2
            subst ec2
            obtain ⟨a2, ddx2, xs2, rfl, ha2, _⟩ := id r2
            cases ry
            obtain ⟨mB, J', _⟩ := ins_get I.hok (le.ex _ _ (notD_ins _ _ _) ha2)
            obtain ⟨od', J', _⟩ := J'.look
            exact ⟨_, J'.type, by unfold PySem.W.notFirst; simp⟩
          | str z =>
            have : y = .str z := r2
            subst this
            obtain ⟨t, rfl⟩ := ry
            exact ⟨_, PySem.W.Looks.of_pure rfl, n1⟩
          | non =>
            have : y = .non := r2
            subst this
            cases ry
            exact ⟨_, PySem.W.Looks.of_pure rfl, n2⟩
          | tup lt =>
            have vt : VW X.K G H (.tup lt) y := ⟨le, .inl r2⟩
            obtain ⟨pt, xt, rfl, hpt, _⟩ := vt.tup
            cases ry
            obtain ⟨itt, _, tt, _⟩ := I.tuple hpt
            obtain ⟨ot, hot, hct, _⟩ := id tt
            exact ⟨_, hct ▸ (PySem.W.Looks.ld hot).andThen .now, n3⟩
          | _ => cases g2
        obtain ⟨tb, hT, hN⟩ := tyb
        show wpAny (model X.prog X.w) X.A (richCompare .Eq _ _) _ _ _
        refine PySem.W.cmp_K (op := .Eq) (by omega) hF I.ok.mod.kin J hT hN hs hf ?_
        refine thn (run_fnSD (dvs := []) (ds := []) (E := fun _ _ _ _ => False) (us := [.ref a, u]) (vs := [.ref a, y]) Fk hr hb .nil (pass_none σ) I (.cons rfl (.cons ry .nil)) sp) fun w s' z => ?_
        obtain ⟨v', H', I', rv', ev, q'⟩ := z
        subst ev
        cases rv'
        exact ⟨.bl b, H', I', rfl, q'⟩
      | _ => cases g1
    · cases e
  · cases e
theorem eqI_core {sc : SC} {K : Fg} {a b : CE} {g : D → D → Option Bool} {W : WX} {R2' : R2} (ha : a.bor = none) (hb : b.bor = none)
    (hr : ∀ x y H Q G dx dy k, (Le G H ∧ LamX.Tabs (lamT K) H ∧ noTb G) → Rep K G dx x → Rep K G dy y → g dx dy = some k → (∀ H', Kp K H H' → Q (.bl k) H') → R2' x y H Q) (σ : St) (H : Hp) (Q : VK)
    (h : tE sc K none (fun env => (a.ev env).bind fun x e1 => (b.ev e1).bind fun y e2 => optE ((g x y).map D.bl) e2) W σ H Q) : tOp R2' (tE sc K a.bor a.ev W) (tE sc K b.bor b.ev W) σ H Q := by
  obtain ⟨fx, L, G, env, R, h⟩ := h
  refine ⟨fx, L, G, env, R, ER.post_mono (ER.post_bind h) (fun dx e1 ea h x H1 G1 R1 s1 v1 => ?_) fun _ _ _ h => h⟩
  refine ⟨fx, L, G1, e1, R1, ER.post_mono (ER.post_bind h) (fun dy e2 eb h y H2 G2 R2 s2 v2 => ?_) (XW.mono s1)⟩
  obtain ⟨d, ef, h⟩ := optE_post h
  obtain ⟨k, ef2, rfl⟩ := Option.map_eq_some_iff.mp ef
  rw [ha] at v1
  rw [hb] at v2
  exact hr x y H2 Q G2 dx dy k ⟨R2.le, R2.tab.tabs, R2.tab.g⟩ (Rep.mono (Le.of_same s2) _ _ v1) v2 ef2 fun H' sm => h _ H' G2 (R2.growT sm) (s1.trans s2) rfl
def CE.eqI (c : Str) (F : List D → FR) (a b : CE) : CE where
  chk sc e := a.bor.isNone && (b.bor.isNone && chkCmp .Eq a b sc e)
  req r := EqRq r c F ∧ a.req r ∧ b.req r
  bor := none
  pur := false
  ev env := (a.ev env).bind fun x e1 => (b.ev e1).bind fun y e2 => optE ((C.eqI c F x y).map D.bl) e2
  pok h := by cases h
  bok i h := by cases h
  sound sc X e W hc k q tk := by
    obtain ⟨h1, h⟩ := and3 hc
    obtain ⟨h2, h3⟩ := and3 h
    obtain ⟨x, y, pos, rfl, g1, g2, g3, g4⟩ := chkCmp_ok h3
    refine (pe_cmpR (op_eqI k.un q.1) (a.sound sc X x W g1 k q.2.1 tk) (b.sound sc X y W g2 k q.2.2 tk) g4).imp (eqI_core (by simpa using h1) (by simpa using h2) ?_)
    exact fun x y H Q G dx dy kk le r1 r2 e z => ⟨G, dx, dy, kk, le, r1, r2, e, z⟩
def CT.eqI (c : Str) (F : List D → FR) (a b : CE) : CT where
  chk sc e := a.bor.isNone && (b.bor.isNone && chkCmp .Eq a b sc e)
  req r := EqRq r c F ∧ a.req r ∧ b.req r
  ev env := (a.ev env).bindT fun x e1 => (b.ev e1).bindT fun y e2 => optT (C.eqI c F x y) e2
  sound sc X e W hc k q tk := by
    obtain ⟨h1, h⟩ := and3 hc
    obtain ⟨h2, h3⟩ := and3 h
    obtain ⟨x, y, pos, rfl, g1, g2, g3, g4⟩ := chkCmp_ok h3
    refine (pt_cmpR (op_eqI k.un q.1) (a.sound sc X x W g1 k q.2.1 tk) (b.sound sc X y W g2 k q.2.2 tk) g4).imp fun σ H Q h => ?_
    refine eqI_core (g := C.eqI c F) (by simpa using h1) (by simpa using h2) (fun x y H Q G dx dy kk le r1 r2 e z => ⟨G, dx, dy, kk, le, r1, r2, e, z⟩) σ H _ ?_
    obtain ⟨fx, L, G, env, R, h⟩ := h
    refine ⟨fx, L, G, env, R, ?_⟩
    have key : ∀ (P : Bool → Env → Prop) (E : EX), ((a.ev env).bindT fun x e1 => (b.ev e1).bindT fun y e2 => optT (C.eqI c F x y) e2).post P E → ((a.ev env).bind fun x e1 => (b.ev e1).bind fun y e2 => optE ((C.eqI c F x y).map D.bl) e2).post (fun d e => ∃ k, d = .bl k ∧ P k e) E := by
      intro P E z
      cases ea : a.ev env with
      | bad => rw [ea] at z; exact z
      | exc _ _ _ => rw [ea] at z; exact z
      | ok x e1 =>
        simp only [ea, ER.bindT, ER.bind] at z ⊢
        cases eb : b.ev e1 with
        | bad => rw [eb] at z; exact z
        | exc _ _ _ => rw [eb] at z; exact z
        | ok y e2 =>
          simp only [eb] at z ⊢
          cases ec : C.eqI c F x y with
          | none => rw [ec] at z; exact z
          | some kk => rw [ec] at z; exact ⟨kk, rfl, z⟩
    refine ER.post_mono (key _ _ h) (fun d e _ z v H' G' R' s' r' => ?_) fun _ _ _ h => h
    obtain ⟨kk, rfl, z⟩ := z
    exact ⟨kk, r', z H' G' R' s'⟩
end C

set_option maxRecDepth 100000
set_option maxHeartbeats 4000000
namespace C
open PySem L2
/-! ### a new object is put among what must stay, for a while -/
def Fx.with (f : Fx) (a : Addr) (o : HO) : Fx := { f with F := L2.upd f.F a o }
section
variable {sc : SC} {K : Fg} {f : Fx} {L : List Addr} {G H : Hp} {σ : St} {env : Env}
theorem Rel.guard (R : Rel sc K f L G H σ env) {a : Addr} {o : HO} (ha : H a = some o) (g : G a = none) (fa : f.F a = none) (la : a ∉ L) (na : ∀ i d', i ∈ sc.ow → env[i]? = some (some d') → σ[i]? ≠ some (some (.ref a))) (ho : ∀ ps, o ≠ .tbl ps := by intro _ z; cases z) : Rel sc K (f.with a o) L G H σ env := by
  refine ⟨R.sub, fun b u e => ?_, R.new, R.g0, R.dom, R.lk, R.len, R.frz, fun i d hi e => ?_, R.dis, R.par, R.rpo, R.lim, fun b u e1 e2 nt => ?_, ⟨R.tab.tabs, R.tab.g, R.tab.f.upd ho⟩⟩
  · by_cases h : b = a
    · subst h
      have e : L2.upd f.F b o b = some u := e
      rw [upd_same] at e; cases e; exact .inl ⟨la, ha⟩
    · have e : L2.upd f.F a o b = some u := e
      rw [upd_ne h] at e; exact R.frm b u e
  · obtain ⟨b, u, h1, h2, h3, h4, h5, h6⟩ := R.own i d hi e
    have hb : b ≠ a := fun z => na i d hi e (z ▸ h1)
    exact ⟨b, u, h1, h2, h3, h4, (by show L2.upd f.F a o b = none; rw [upd_ne hb]; exact h5), h6⟩
  · by_cases h : b = a
    · subst h; exact g
    · have e : L2.upd f.F a o b = some u := e1
      rw [upd_ne h] at e; exact R.gf b u e e2 nt
theorem Rel.unguard {a : Addr} {o : HO} (R : Rel sc K (f.with a o) L G H σ env) (fa : f.F a = none) (la : a ∉ L) (ba : f.B a = none) (nt : ¬ isTp o) :
    Rel sc K f L G H σ env ∧ H a = some o ∧ G a = none ∧ ∀ i d', i ∈ sc.ow → env[i]? = some (some d') → σ[i]? ≠ some (some (.ref a)) := by
  have key : ∀ b u, f.F b = some u → (f.with a o).F b = some u := fun b u e => by
    have hb : b ≠ a := fun z => by subst z; rw [fa] at e; cases e
    show L2.upd f.F a o b = some u
    rw [upd_ne hb]; exact e
  have self : (f.with a o).F a = some o := upd_same
  have own : ∀ i d, i ∈ sc.ow → env[i]? = some (some d) → ∃ b u, σ[i]? = some (some (.ref b)) ∧ H b = some u ∧ ORep K G d u ∧ G b = none ∧ f.F b = none ∧ b ∉ L ∧ (i ∈ sc.rp ∨ f.B b = none) ∧ b ≠ a := fun i d hi e => by
    obtain ⟨b, u, h1, h2, h3, h4, h5, h6⟩ := R.own i d hi e
    have hb : b ≠ a := fun z => by subst z; rw [self] at h5; cases h5
    have h5' : L2.upd f.F a o b = none := h5
    rw [upd_ne hb] at h5'
    exact ⟨b, u, h1, h2, h3, h4, h5', h6.1, h6.2, hb⟩
  refine ⟨⟨R.sub, fun b u e => R.frm b u (key b u e), R.new, R.g0, R.dom, R.lk, R.len, R.frz, fun i d hi e => ?_, R.dis, R.par, R.rpo, R.lim, fun b u e1 e2 nt => R.gf b u (key b u e1) e2 nt, ⟨R.tab.tabs, R.tab.g, fun b ps e => R.tab.f b ps (key b _ e)⟩⟩, ?_, R.gf a o self ba nt, fun i d hi e z => ?_⟩
  · obtain ⟨b, u, h1, h2, h3, h4, h5, h6, h7, _⟩ := own i d hi e
    exact ⟨b, u, h1, h2, h3, h4, h5, h6, h7⟩
  · rcases R.frm a o self with ⟨_, z⟩ | ⟨z, _⟩
    · exact z
    · exact absurd z la
  · obtain ⟨b, u, h1, _, _, _, _, _, _, hb⟩ := own i d hi e
    rw [z] at h1
    cases h1
    exact hb rfl
/-- slots forgotten on both sides -/
def wipeE (e : Env) : List Nat → Env
  | [] => e
  | v :: vs => (wipeE e vs).set v none
theorem wipeE_get : ∀ {vs : List Nat} {e : Env} {i : Nat} {d : D}, (wipeE e vs)[i]? = some (some d) → e[i]? = some (some d) ∧ i ∉ vs
  | [], e, i, d, h => ⟨h, by simp⟩
  | v :: vs, e, i, d, h => by
    unfold wipeE at h
    by_cases hi : v = i
    · subst hi
      by_cases hl : v < (wipeE e vs).length
      · rw [List.getElem?_set_self hl] at h; cases h
      · rw [List.getElem?_eq_none (by simpa using hl)] at h; cases h
    · rw [List.getElem?_set_ne hi] at h
      obtain ⟨h1, h2⟩ := wipeE_get h
      exact ⟨h1, fun z => (List.mem_cons.mp z).elim (fun z => hi z.symm) h2⟩
theorem wipeE_len : ∀ (vs : List Nat) (e : Env), (wipeE e vs).length = e.length
  | [], e => rfl
  | v :: vs, e => by unfold wipeE; rw [List.length_set, wipeE_len vs e]
theorem Rel.wipe (R : Rel sc K f L G H σ env) (vs : List Nat) (hv : ∀ i ∈ vs, i ∉ sc.ow) : Rel sc K f L G H (L2.wipe σ vs) (wipeE env vs) := by
  have so : ∀ i, i ∉ vs → (L2.wipe σ vs)[i]? = σ[i]? := fun i hi => wipe_out hi
  refine ⟨R.sub, R.frm, R.new, R.g0, R.dom, R.lk, by rw [wipeE_len, wipe_length]; exact R.len, fun i d hi e => ?_, fun i d hi e => ?_, fun i j di dj a hi hj ei ej si sj => ?_, fun p hp => ?_, R.rpo, fun p hp => by rw [wipe_length]; exact R.lim p hp, R.gf, R.tab⟩
  · obtain ⟨h1, h2⟩ := wipeE_get e
    rw [so i h2]; exact R.frz i d hi h1
  · obtain ⟨h1, h2⟩ := wipeE_get e
    rw [so i h2]; exact R.own i d hi h1
  · obtain ⟨h1, h2⟩ := wipeE_get ei
    obtain ⟨k1, k2⟩ := wipeE_get ej
    rw [so i h2] at si
    rw [so j k2] at sj
    exact R.dis i j di dj a hi hj h1 k1 si sj
  · rw [so p fun z => hv p z (R.rpo p hp)]; exact R.par p hp
/-- the slots vs as they stood in e0, all others as in e -/
def backE (e0 e : Env) : List Nat → Env
  | [] => e
  | v :: vs => match e0[v]? with | some x => (backE e0 e vs).set v x | none => backE e0 e vs
theorem backE_len (e0 e : Env) : ∀ vs : List Nat, (backE e0 e vs).length = e.length
  | [] => rfl
  | v :: vs => by
    unfold backE
    split
    · rw [List.length_set, backE_len e0 e vs]
    · exact backE_len e0 e vs
theorem backE_get {e0 e : Env} {d : D} {i : Nat} : ∀ {vs : List Nat}, (backE e0 e vs)[i]? = some (some d) → (i ∈ vs ∧ e0[i]? = some (some d)) ∨ (i ∉ vs ∧ e[i]? = some (some d)) ∨ (i ∈ vs ∧ e0[i]? = none)
  | [], h => .inr (.inl ⟨by simp, h⟩)
  | v :: vs, h => by
    unfold backE at h
    by_cases hi : v = i
    · subst hi
      split at h
      · rename_i x ex
        by_cases hl : v < (backE e0 e vs).length
        · rw [List.getElem?_set_self hl] at h
          cases h
          exact .inl ⟨List.mem_cons_self, ex⟩
        · rw [List.getElem?_eq_none (by simpa using hl)] at h; cases h
      · rename_i ex; exact .inr (.inr ⟨List.mem_cons_self, ex⟩)
    · have key : (backE e0 e vs)[i]? = some (some d) := by
        split at h
        · rw [List.getElem?_set_ne hi] at h; exact h
        · exact h
      rcases backE_get key with ⟨h1, h2⟩ | ⟨h1, h2⟩ | ⟨h1, h2⟩
      · exact .inl ⟨List.mem_cons_of_mem _ h1, h2⟩
      · exact .inr (.inl ⟨fun z => (List.mem_cons.mp z).elim (fun z => hi z.symm) h1, h2⟩)
      · exact .inr (.inr ⟨List.mem_cons_of_mem _ h1, h2⟩)
/-- back from a block: its own slots as before it, all else as behind it -/
theorem Rel.back {G0 H0 : Hp} {e0 : Env} (R0 : Rel sc K f L G0 H0 σ e0) (R : Rel sc K f L G H (L2.wipe σ vs) env) (s : Same G0 G) (hv : ∀ i ∈ vs, i ∉ sc.ow) (hw : ∀ i ∈ vs, ∀ d, env[i]? ≠ some (some d)) : Rel sc K f L G H σ (backE e0 env vs) := by
  have so : ∀ i, i ∉ vs → (L2.wipe σ vs)[i]? = σ[i]? := fun i hi => wipe_out hi
  have hl : e0.length = env.length := by rw [R0.len, R.len, wipe_length]
  have own : ∀ i d, i ∈ sc.ow → (backE e0 env vs)[i]? = some (some d) → i ∉ vs ∧ env[i]? = some (some d) := fun i d hi e => by
    rcases backE_get e with ⟨h1, _⟩ | ⟨h1, h2⟩ | ⟨h1, _⟩
    · exact absurd hi (hv i h1)
    · exact ⟨h1, h2⟩
    · exact absurd hi (hv i h1)
  refine ⟨R.sub, R.frm, R.new, R.g0, R.dom, R.lk, by rw [backE_len, R.len, wipe_length], fun i d hi e => ?_, fun i d hi e => ?_, fun i j di dj a hi hj ei ej si sj => ?_, R0.par, R.rpo, R0.lim, R.gf, R.tab⟩
  · rcases backE_get e with ⟨h1, h2⟩ | ⟨h1, h2⟩ | ⟨h1, h2⟩
    · obtain ⟨v, k1, k2⟩ := R0.frz i d hi h2
      exact ⟨v, k1, Rep.mono (Le.of_same s) _ _ k2⟩
    · obtain ⟨v, k1, k2⟩ := R.frz i d hi h2
      exact ⟨v, by rw [← so i h1]; exact k1, k2⟩
    · exfalso
      have := (List.getElem?_eq_some_iff.mp e).1
      rw [backE_len, ← hl] at this
      rw [List.getElem?_eq_none_iff] at h2
      omega
  · obtain ⟨h1, h2⟩ := own i d hi e
    rw [← so i h1]; exact R.own i d hi h2
  · obtain ⟨h1, h2⟩ := own i di hi ei
    obtain ⟨k1, k2⟩ := own j dj hj ej
    exact R.dis i j di dj a hi hj h2 k2 (by rw [so i h1]; exact si) (by rw [so j k1]; exact sj)
end
end C

set_option maxRecDepth 100000
set_option maxHeartbeats 4000000
namespace C
open PySem L2
/-! ### list comprehensions -/
theorem Rel.of_sc {sc sc' : SC} {K : Fg} {f : Fx} {L : List Addr} {G H : Hp} {σ : St} {env : Env} (h1 : sc'.ow = sc.ow) (h2 : sc'.rp = sc.rp) (R : Rel sc K f L G H σ env) : Rel sc' K f L G H σ env := by
  refine ⟨R.sub, R.frm, R.new, R.g0, R.dom, R.lk, R.len, ?_, ?_, ?_, ?_, ?_, ?_, R.gf, R.tab⟩
  · rw [h1]; exact R.frz
  · rw [h1, h2]; exact R.own
  · rw [h1]; exact R.dis
  · rw [h2]; exact R.par
  · rw [h1, h2]; exact R.rpo
  · rw [h1]; exact R.lim
def inner (sc : SC) (scope : Scope) : SC := { sc with kd := fun x => (scope.names.map fun (n, k) => if (k == NameKind.free && sc.kd n == some .cell) then (n, NameKind.cell) else (n, k)).lookup x, fnl := false, fr := false, df := none }
def ownOf (N : List Str) (vs : List Nat) : List (Str × Nat) := vs.map fun i => (N.getD i "", i)
def blkB (N : List Str) (kd : Str → Option NameKind) (scope : Scope) (own : List (Str × Nat)) : Bool :=
  (match scope.kind with | .function => true | _ => false) && ((scope.names.all fun y => decide (scope.names.lookup y.1 = some y.2)) && ((own.all fun p => decide (N[p.2]? = some p.1)) &&
    (scope.names.all fun y => match y.2 with
      | .free => (match kd y.1 with | some .cell => true | some .free => true | _ => false)
      | .local => decide (y.1 ∈ own.map (·.1)) || decide (y.1 ∉ N)
      | .cell => decide (y.1 ∈ own.map (·.1)) || decide (y.1 ∉ N)
      | _ => true)))
theorem blkB_ok {sc : SC} {X : Cx} {scope : Scope} {own : List (Str × Nat)} (k : XOk sc X) (h : blkB sc.N sc.kd scope own = true) : BlkOk X.N X.env.scope scope own := by
  obtain ⟨h1, h⟩ := and3 h
  obtain ⟨h2, h⟩ := and3 h
  obtain ⟨h3, h4⟩ := and3 h
  refine ⟨?_, fun y hy => of_decide_eq_true (List.all_eq_true.mp h2 y hy), fun p hp => by rw [k.N]; exact of_decide_eq_true (List.all_eq_true.mp h3 p hp), fun y hy e => ?_, fun y hy e => ?_⟩
  · cases e : scope.kind <;> rw [e] at h1 <;> first | rfl | cases h1
  · have := List.all_eq_true.mp h4 y hy
    rw [e] at this
    rw [k.kd y.1]
    cases e2 : sc.kd y.1 with
    | none => simp only [e2] at this; cases this
    | some kk =>
      simp only [e2] at this
      cases kk <;> first | exact .inl rfl | exact .inr rfl | cases this
  · have := List.all_eq_true.mp h4 y hy
    rw [k.N]
    rcases e with e | e <;> rw [e] at this <;> simpa using this
theorem inner_ok {sc : SC} {X : Cx} {scope : Scope} (k : XOk sc X) (hk : scope.kind = .function) (s : Shared) (H : Hp) (Cl : Addr) (cl : List (Str × Addr)) (fp : List Addr) : XOk (inner sc scope) (X.blk s H scope (compEnvC scope cl Cl X.env) fp) := by
  refine ⟨k.N, k.nd, fun x => ?_, k.calm, (fun z => by cases z), k.un, hk, (fun z => by cases z), (fun _ z => by cases z)⟩
  show (List.map _ scope.names).lookup x = (List.map _ scope.names).lookup x
  congr 2
  funext p
  obtain ⟨n, kk⟩ := p
  show (if (kk == NameKind.free && X.env.scope.kind == ScopeKind.function && X.env.kindOf n == some NameKind.cell) = true then (n, NameKind.cell) else (n, kk)) = _
  have e1 : (X.env.scope.kind == ScopeKind.function) = true := by rw [k.fk]; rfl
  have e2 : X.env.kindOf n = sc.kd n := k.kd n
  rw [e1, e2, Bool.and_true]
def tsE (t : Option CT) (env : Env) : TR := match t with | none => .ok true env | some t => t.ev env
def chkTs (t : Option CT) (sc : SC) (es : List Expr) : Bool := match t, es with | none, [] => true | some t, [e] => t.chk sc e | _, _ => false
def reqTs (t : Option CT) (r : Rq) : Prop := match t with | none => True | some t => t.req r
theorem ts_ok {sc : SC} {X : Cx} {t : Option CT} {es : List Expr} {W : WX} (hc : chkTs t sc es = true) (k : XOk sc X) (q : reqTs t (rq X)) (tk : Takes X W) : PTs X es (tT sc X.K (tsE t) W) := by
  cases t with
  | none =>
    cases es with
    | nil =>
      refine ⟨fun pins s σ H Q I h => pts_nil.run pins s σ H Q I ?_⟩
      obtain ⟨fx, L, G, env, R, h⟩ := h
      exact h H G R (Same.refl _)
    | cons _ _ => cases hc
  | some t =>
    cases es with
    | nil => cases hc
    | cons e es =>
      cases es with
      | nil => exact pts_one (t.sound sc X e W hc k q tk)
      | cons _ _ => cases hc
def lcE (g : D → Env → Option Env) (t : Env → TR) (e : Env → ER) (vs : List Nat) : List D → List D → Env → ER
  | [], acc, env => .ok (.lst acc) env
  | x :: l, acc, env => match g x env with
    | none => .bad
    | some e1 => match t e1 with
      | .ok true e2 => (match e e2 with
        | .ok y e3 => if acc.length < sizeLine then lcE g t e vs l (acc ++ [y]) (wipeE e3 vs) else .bad
        | _ => .bad)
      | .ok false e2 => lcE g t e vs l acc (wipeE e2 vs)
      | _ => .bad
def evLc (g : D → Env → Option Env) (t : Env → TR) (e : Env → ER) (vs : List Nat) (ds : List D) (e0 : Env) : ER := match lcE g t e vs ds [] (wipeE e0 vs) with
  | .ok d e1 => .ok d (backE e0 e1 vs)
  | _ => .bad
theorem wipeE_no {vs : List Nat} {e : Env} : ∀ i ∈ vs, ∀ d, (wipeE e vs)[i]? ≠ some (some d) := fun i hi d h => (wipeE_get h).2 hi
theorem wipe_in {σ : St} {i : Nat} : ∀ {vs : List Nat}, i ∈ vs → i < σ.length → (L2.wipe σ vs)[i]? = some none
  | [], h, _ => by cases h
  | v :: vs, h, hl => by
    unfold L2.wipe
    by_cases e : v = i
    · subst e; rw [List.getElem?_set_self (by rw [wipe_length]; exact hl)]
    · rw [List.getElem?_set_ne e]
      exact wipe_in ((List.mem_cons.mp h).resolve_left fun z => e z.symm) hl
theorem wipe_idem (σ : St) (vs : List Nat) : L2.wipe (L2.wipe σ vs) vs = L2.wipe σ vs := by
  apply List.ext_getElem?
  intro i
  by_cases h : i ∈ vs
  · by_cases hl : i < σ.length
    · rw [wipe_in h (by rw [wipe_length]; exact hl), wipe_in h hl]
    · rw [List.getElem?_eq_none (by rw [wipe_length, wipe_length]; omega), List.getElem?_eq_none (by rw [wipe_length]; omega)]
  · rw [wipe_out h]
theorem lc_to {sc sc' : SC} {K : Fg} {fx : Fx} {L : List Addr} {G1 H1 : Hp} {σ : St} {e0 : Env} {vs slots : List Nat} {g : D → Env → Option Env} {t : Env → TR} {e : Env → ER} {ds : List D} {J : It} {Q : VK} {P : D → Env → Prop} {E : EX}
    (hw1 : sc'.ow = sc.ow) (hw2 : sc'.rp = sc.rp) (hv : ∀ i ∈ vs, i ∉ sc.ow) (hs : ∀ i ∈ slots, i ∈ vs)
    (R1 : Rel sc K fx L G1 H1 σ e0) (wk : Walks K J G1 ds) (h : (evLc g t e vs ds e0).post P E)
    (hP : ∀ d env' v H' G', P d env' → Rel sc K fx L G' H' σ env' → Same G1 G' → FrRel sc K fx L G' H' σ env' d v → Q v H') (D0 : Addr) (hD : H1 D0 = none) :
    ∃ W : Nat → Nat → Hp → Prop, (∃ m, W 0 m (L2.upd H1 D0 (.lst []))) ∧ ∀ i m H, W i m H →
      (J.stop i H ∧ Q (.ref D0) H) ∨ (J.go i H ∧ ∃ Nx : Hp → Prop, (∀ H', Nx H' → ∃ m', m' < m ∧ W (i + 1) m' H') ∧ ∀ x H', J.yld i H x H' → (tG sc' K slots g) x (L2.wipe σ vs) H' fun σ2 H2 => L2.wipe σ2 vs = L2.wipe σ vs ∧ (tT sc' K t fun _ _ _ _ => False) σ2 H2 fun b H3 =>
        if b = true then (tE sc' K none e fun _ _ _ _ => False) σ2 H3 fun y H4 => ∃ acc, H4 D0 = some (.lst acc) ∧ acc.length < sizeLine ∧ Nx (L2.upd H4 D0 (.lst (acc ++ [y]))) else Nx H3) := by
  obtain ⟨d, el, eP⟩ : ∃ d, (∃ e1, lcE g t e vs ds [] (wipeE e0 vs) = .ok d e1 ∧ P d (backE e0 e1 vs)) ∧ True := by
    unfold evLc at h
    cases el : lcE g t e vs ds [] (wipeE e0 vs) with
    | ok d e1 => rw [el] at h; exact ⟨d, ⟨e1, rfl, h⟩, trivial⟩
    | exc _ _ _ => rw [el] at h; exact h.elim
    | bad => rw [el] at h; exact h.elim
  obtain ⟨eF, el, hPd⟩ := el
  have hF : fx.F D0 = none := by
    cases z : fx.F D0 with
    | none => rfl
    | some u => exact absurd hD (R1.frm D0 u z).some
  have hL : D0 ∉ L := fun z => (R1.lk D0 z).1 hD
  have hB := R1.dom D0 hD
  have Rw := R1.wipe vs hv
  obtain ⟨R2, fr⟩ := Rw.fresh (o := .lst []) (d := .lst []) hD ⟨[], rfl, rfl⟩
  obtain ⟨a, o, e1, _, _, ga, _, _, _, na⟩ := fr
  cases e1
  have R3 := R2.guard upd_same ga hF hL na
  refine ⟨fun i m H => m + i = ds.length ∧ ∃ G2 e2 acc accV, Rel sc K (fx.with D0 (.lst accV)) L G2 H (L2.wipe σ vs) e2 ∧ Same G1 G2 ∧ Reps K G2 acc accV ∧ (∀ i ∈ vs, ∀ d, e2[i]? ≠ some (some d)) ∧ lcE g t e vs (ds.drop i) acc e2 = .ok d eF, ⟨ds.length, rfl, G1, wipeE e0 vs, [], [], R3, Same.refl _, rfl, wipeE_no, el⟩, ?_⟩
  rintro i m H ⟨hm, G2, e2, acc, accV, RG, s2, ra, hno, hl⟩
  obtain ⟨go, st⟩ := wk G2 H s2 RG.le
  cases ei : ds[i]? with
  | none =>
    have hle : ds.length ≤ i := List.getElem?_eq_none_iff.mp ei
    rw [List.drop_eq_nil_of_le hle] at hl
    cases hl
    obtain ⟨Ru, hH, gD, nD⟩ := RG.unguard hF hL hB (by rintro ⟨_, z⟩; cases z)
    refine .inl ⟨st i hle, hP _ _ _ H G2 hPd (R1.back Ru s2 hv hno) s2 ⟨D0, .lst accV, rfl, hH, ⟨accV, rfl, ra⟩, gD, hF, hL, hB, fun j d' hj ej sj => ?_⟩⟩
    rcases backE_get ej with ⟨h1, _⟩ | ⟨h1, h2⟩ | ⟨h1, _⟩
    · exact hv j h1 hj
    · exact nD j d' hj h2 (by rw [wipe_out h1]; exact sj)
    · exact hv j h1 hj
  | some x0 =>
    have hlt : i < ds.length := (List.getElem?_eq_some_iff.mp ei).1
    have ed : ds.drop i = x0 :: ds.drop (i + 1) := by rw [List.drop_eq_getElem_cons hlt, (List.getElem?_eq_some_iff.mp ei).2]
    rw [ed] at hl
    unfold lcE at hl
    obtain ⟨g1, g2⟩ := go i x0 ei
    refine .inr ⟨g1, fun H' => ∃ G3 e3 acc' accV', Rel sc K (fx.with D0 (.lst accV')) L G3 H' (L2.wipe σ vs) e3 ∧ Same G1 G3 ∧ Reps K G3 acc' accV' ∧ (∀ i ∈ vs, ∀ d, e3[i]? ≠ some (some d)) ∧ lcE g t e vs (ds.drop (i + 1)) acc' e3 = .ok d eF, fun H' z => ⟨m - 1, by omega, by omega, z⟩, fun x H3 y => ?_⟩
    obtain ⟨G3, nw, rx⟩ := g2 x H3 y
    have RG3 := RG.grow nw.1 nw.2.1 nw.2.2.1 (nw.2.2.2 RG.tab.g)
    refine ⟨_, L, G3, e2, x0, RG3.of_sc hw1 hw2, rx, ?_⟩
    cases eg : g x0 e2 with
    | none => rw [eg] at hl; cases hl
    | some e4 =>
      simp only [eg] at hl
      intro σ2 R4 w4
      have ww := w4 vs hs
      rw [wipe_idem] at ww
      refine ⟨ww, _, L, G3, e4, R4, ?_⟩
      cases et : t e4 with
      | bad => rw [et] at hl; cases hl
      | exc _ _ _ => rw [et] at hl; cases hl
      | ok b e5 =>
        intro H5 G5 R5 s5
        cases b with
        | false =>
          rw [et] at hl
          refine iteF ⟨G5, wipeE e5 vs, acc, accV, ?_, (s2.trans nw.2.1).trans s5, Reps.mono (Le.of_same (nw.2.1.trans s5)) _ _ ra, wipeE_no, hl⟩
          have := (R5.of_sc (sc' := sc) hw1.symm hw2.symm).wipe vs hv
          rw [ww] at this
          exact this
        | true =>
          rw [et] at hl
          refine iteT ⟨_, L, G5, e5, R5, ?_⟩
          cases ee : e e5 with
          | bad => simp only [ee] at hl; cases hl
          | exc _ _ _ => simp only [ee] at hl; cases hl
          | ok z e6 =>
            simp only [ee] at hl
            intro zv H6 G6 R6 s6 rz
            have Rb := (R6.of_sc (sc' := sc) hw1.symm hw2.symm).wipe vs hv
            rw [ww] at Rb
            obtain ⟨Ru, hH, gD, nD⟩ := Rb.unguard hF hL hB (by rintro ⟨_, z⟩; cases z)
            have ra6 := Reps.mono (Le.of_same ((nw.2.1.trans s5).trans s6)) _ _ ra
            by_cases hz : acc.length < sizeLine
            · rw [if_pos hz] at hl
              refine ⟨accV, hH, by rw [← ra6.length]; exact hz, G6, wipeE e6 vs, acc ++ [z], accV ++ [zv], ?_, ((s2.trans nw.2.1).trans s5).trans s6, ra6.append ⟨zv, [], rfl, rz, rfl⟩, wipeE_no, hl⟩
              have Rc := Ru.chg (H' := L2.upd H6 D0 (.lst (accV ++ [zv]))) [D0] (fun b u eb nb _ => by rw [upd_ne fun q => nb (by simp [q])]; exact eb) (tabs_keep Ru.tab.tabs fun b u eb np => by
                have : b ≠ D0 := fun q => np (by rw [q, hH] at eb; cases eb; exact ⟨(fun _ e => by cases e), (fun _ e => by cases e)⟩)
                rw [upd_ne this]; exact eb) (fun b eb => by
                by_cases q : b = D0
                · rw [q, upd_same] at eb; cases eb
                · rw [upd_ne q] at eb; exact eb) (Same.refl _) (fun b u eb => .inl eb) (fun b hb => by
                have : b = D0 := by simpa using hb
                subst this
                exact ⟨gD, hF, hL, by rw [upd_same]; simp⟩) Ru.tab.g rfl fun j dj ej => .inl ⟨ej, fun hj b sb hb => by
                  have : b = D0 := by simpa using hb
                  subst this
                  exact nD j dj hj ej sb⟩
              exact Rc.guard upd_same gD hF hL nD
            · rw [if_neg hz] at hl; cases hl
end C

set_option maxRecDepth 100000
set_option maxHeartbeats 4000000
namespace C
open PySem L2
structure Lc where
  vs : List Nat
  g : CG
  c : CI
  t : Option CT
  e : CE
def Lc.chk (l : Lc) (sc : SC) (elt tg iter : Expr) (ifs : List Expr) (scope : Scope) : Bool :=
  sc.calm && (notSet iter && (l.e.bor.isNone && ((l.vs.all fun i => !sc.ow.contains i) && ((l.g.slots.all fun i => l.vs.contains i) && (blkB sc.N sc.kd scope (ownOf sc.N l.vs) &&
    (l.c.chk sc iter && (l.g.chk (inner sc scope) tg && (chkTs l.t (inner sc scope) ifs && l.e.chk (inner sc scope) elt))))))))
def Lc.req (l : Lc) (r : Rq) : Prop := l.c.req r ∧ reqTs l.t r ∧ l.e.req r
def Lc.ev (l : Lc) (env : Env) : ER := (l.c.ev env).bind fun ds e0 => evLc l.g.asg (tsE l.t) l.e.ev l.vs ds e0
theorem ownOf_slots (N : List Str) (vs : List Nat) : (ownOf N vs).map (·.2) = vs := by
  unfold ownOf
  rw [List.map_map]
  exact (List.map_congr_left fun x _ => rfl).trans (List.map_id' vs)
/-- the parts of the rule, whatever is done with the list -/
theorem Lc.parts {l : Lc} {sc : SC} {X : Cx} {elt tg iter : Expr} {ifs : List Expr} {scope : Scope} {W : WX} (hc : l.chk sc elt tg iter ifs scope = true) (k : XOk sc X) (q : l.req (rq X)) (tk : Takes X W) :
    X.calm = true ∧ PI X tg iter (tI sc X.K l.c.ev W) ∧ BlkOk X.N X.env.scope scope (ownOf sc.N l.vs) ∧
    (∀ (s : Shared) (H : Hp) (Cl : Addr) (cl : List (Str × Addr)) (fp : List Addr), PG (X.blk s H scope (compEnvC scope cl Cl X.env) fp) tg (tG (inner sc scope) X.K l.g.slots l.g.asg)) ∧
    (∀ (s : Shared) (H : Hp) (Cl : Addr) (cl : List (Str × Addr)) (fp : List Addr), PTs (X.blk s H scope (compEnvC scope cl Cl X.env) fp) ifs (tT (inner sc scope) X.K (tsE l.t) fun _ _ _ _ => False)) ∧
    (∀ (s : Shared) (H : Hp) (Cl : Addr) (cl : List (Str × Addr)) (fp : List Addr), PE (X.blk s H scope (compEnvC scope cl Cl X.env) fp) elt (tE (inner sc scope) X.K none l.e.ev fun _ _ _ _ => False)) ∧
    (∀ x, foldedSetIterable iter X.env x = pure x) ∧ (∀ i ∈ l.vs, i ∉ sc.ow) ∧ (∀ i ∈ l.g.slots, i ∈ l.vs) := by
  unfold Lc.chk at hc
  obtain ⟨h1, h⟩ := and3 hc
  obtain ⟨h2, h⟩ := and3 h
  obtain ⟨h3, h⟩ := and3 h
  obtain ⟨h4, h⟩ := and3 h
  obtain ⟨h5, h⟩ := and3 h
  obtain ⟨h6, h⟩ := and3 h
  obtain ⟨h7, h⟩ := and3 h
  obtain ⟨h8, h⟩ := and3 h
  obtain ⟨h9, h10⟩ := and3 h
  have bk := blkB_ok k h6
  have hb : l.e.bor = none := by simpa using h3
  have xk := fun s H Cl cl fp => inner_ok k bk.kind s H Cl cl fp
  refine ⟨k.calm.trans h1, l.c.sound sc X tg iter W h7 k q.1 tk, bk, fun s H Cl cl fp => l.g.sound _ _ _ h8 (xk s H Cl cl fp), fun s H Cl cl fp => ts_ok h9 (xk s H Cl cl fp) q.2.1 takes0, fun s H Cl cl fp => ?_, notSet_ok h2, fun i hi => ?_, fun i hi => ?_⟩
  · have := l.e.sound _ _ _ (fun _ _ _ _ => False) h10 (xk s H Cl cl fp) q.2.2 takes0
    rw [hb] at this
    exact this
  · simpa using List.all_eq_true.mp h4 i hi
  · simpa using List.all_eq_true.mp h5 i hi
theorem Lc.to {l : Lc} {sc : SC} {K : Fg} {scope : Scope} {W : WX} (hv : ∀ i ∈ l.vs, i ∉ sc.ow) (hs : ∀ i ∈ l.g.slots, i ∈ l.vs) (σ : St) (H : Hp) (Q : VK) (h : tF sc K l.ev W σ H Q) :
    tLc (tI sc K l.c.ev W) (tG (inner sc scope) K l.g.slots l.g.asg) (tT (inner sc scope) K (tsE l.t) fun _ _ _ _ => False) (tE (inner sc scope) K none l.e.ev fun _ _ _ _ => False) ((ownOf sc.N l.vs).map (·.2)) σ H Q := by
  rw [ownOf_slots]
  obtain ⟨fx, L, G, env, R, h⟩ := h
  refine ⟨fx, L, G, env, R, AR.post_mono (AR.post_bind h) (fun ds e0 _ h J H1 G1 R1 s1 wk D0 hD => ?_) fun _ _ _ h => h⟩
  exact lc_to (sc := sc) (sc' := inner sc scope) rfl rfl hv hs R1 wk h (fun d env' v H' G' hP R' s' fr => hP v H' G' R' (s1.trans s') fr) D0 hD
def CF.lc (l : Lc) : CF where
  chk sc e := match e with | .ListComp elt [⟨tg, iter, ifs, 0⟩] scope _ => l.chk sc elt tg iter ifs scope | _ => false
  req := l.req
  pur := false
  ev := l.ev
  pok h := by cases h
  sound sc X e W hc k q tk := by
    split at hc
    · obtain ⟨h1, h2, h3, h4, h5, h6, h7, h8, h9⟩ := l.parts hc k q tk
      exact (pe_lc h1 k.nd h2 h3 h4 h5 h6 h7).imp fun σ H Q h => l.to h8 h9 σ H Q h
    · cases hc
/-- name = [..] on one line: a local name, its value a new object of its own or frozen -/
def chkSw (sc : SC) (y : Str) (py pos : Pos) (scope : Scope) : Bool := decide (sc.kd y = some .local) && ((py.line == pos.line) && !(scope.names.any fun (n, k) => n == y && (k == .local || k == .cell)))
def CS.setLc (i : Nat) (fz : Bool) (l : Lc) : CS where
  chk sc e := match e with | .Assign [.Name y py] (.ListComp elt [⟨tg, iter, ifs, 0⟩] scope pos) _ => chkSw sc y py pos scope && (chkLoc sc i y && ((if fz then !sc.ow.contains i else sc.ow.contains i && !sc.rp.contains i) && l.chk sc elt tg iter ifs scope)) | _ => false
  req := l.req
  ev env := (l.ev env).bindS fun d e => .nx (e.set i (some d))
  sound sc X e W hc k q tk _ := by
    split at hc
    · rename_i y py elt tg iter ifs scope pos spos
      obtain ⟨h0, h⟩ := and3 hc
      obtain ⟨hL, h⟩ := and3 h
      obtain ⟨hO, hl⟩ := and3 h
      obtain ⟨s1, s⟩ := and3 h0
      obtain ⟨s2, s3⟩ := and3 s
      obtain ⟨g1, g2, g3⟩ := chkLoc_ok hL k
      have hy : X.env.scope.names.lookup y = some .local := by rw [k.kd y]; exact of_decide_eq_true s1
      obtain ⟨h1, h2, h3, h4, h5, h6, h7, h8, h9⟩ := l.parts hl k q tk
      refine (ps_setLc h1 k.nd g1 hy (sw_true k.fk hy s2 (by simpa using s3)) h2 h3 h4 h5 h6 h7).imp fun D σ H h => ?_
      refine l.to (W := W) h8 h9 σ H _ ?_
      obtain ⟨fx, L, G, env, R, h⟩ := h
      refine ⟨fx, L, G, env, R, ER.post_mono (ER.post_bindS h) (fun d e1 _ hz v H1 G1 R1 s1 fr => ?_) (XWs.at σ)⟩
      cases fz with
      | false =>
        obtain ⟨o1, o2⟩ := and3 hO
        exact hz _ H1 G1 (R1.setF (by simpa using o1) (by simpa using o2) fr) s1
      | true =>
        obtain ⟨G2, R2, s2, r2⟩ := R1.freeze fr
        exact hz _ H1 G2 (R2.set (by simpa using hO) r2) (s1.trans s2)
    · cases hc
/-- a cell's name = a new object or a comprehension (no stores are exchanged) -/
def noSw (sc : SC) (y : Str) (v : Expr) : Bool := noComp v || !decide (sc.kd y = some .local)
theorem noSw_ok {sc : SC} {X : Cx} {y : Str} {py : Pos} {v : Expr} {l : Nat} (k : XOk sc X) (h : noSw sc y v = true) : swapsWith v (some (.Name y py)) l X.env = pure false := by
  by_cases hn : noComp v = true
  · exact noComp_ok hn
  · have hy : ¬ X.env.kindOf y = some .local := by
      show ¬ X.env.scope.names.lookup y = some .local
      rw [k.kd y]
      intro z
      unfold noSw at h
      rw [show noComp v = false by simpa using hn, decide_eq_true z] at h
      cases h
    have hy2 : (X.env.kindOf y == some NameKind.local) = false := by simpa using hy
    unfold swapsWith
    cases v <;> first | rfl | (simp only [hy2, Bool.and_false, Bool.false_and] <;> rfl) | (simp only [hy2, Bool.and_false, Bool.false_and])
def CS.setFc (i : Nat) (c : CF) : CS where
  chk sc e := match e with | .Assign [.Name x _] v _ => noSw sc x v && (chkLoc sc i x && (sc.ow.contains i && (!(sc.rp.contains i) && c.chk sc v))) | _ => false
  req := c.req
  ev env := (c.ev env).bindS fun d e => .nx (e.set i (some d))
  sound sc X e W hc k q tk _ := by
    split at hc
    · obtain ⟨h1, h⟩ := and3 hc
      obtain ⟨h2, h⟩ := and3 h
      obtain ⟨h3, h⟩ := and3 h
      obtain ⟨h4, h5⟩ := and3 h
      obtain ⟨g1, g2, g3⟩ := chkLoc_ok h2 k
      refine (ps_set k.nd g1 g2 (c.sound sc X _ W h5 k q tk) (noSw_ok k h1) g3).imp fun D σ H h => ?_
      obtain ⟨fx, L, G, env, R, h⟩ := h
      refine ⟨fx, L, G, env, R, ER.post_mono (ER.post_bindS h) (fun d e1 _ h v H1 G1 R1 s1 r1 => ?_) (XWs.at σ)⟩
      exact h _ H1 G1 (R1.setF (by simpa using h3) (by simpa using h4) r1) s1
    · cases hc
def CS.setEc (i : Nat) (c : CE) : CS where
  chk sc e := match e with | .Assign [.Name x _] v _ => noSw sc x v && (chkLoc sc i x && (!sc.ow.contains i && (c.bor.isNone && c.chk sc v))) | _ => false
  req := c.req
  ev env := (c.ev env).bindS fun d e => .nx (e.set i (some d))
  sound sc X e W hc k q tk _ := by
    split at hc
    · obtain ⟨h1, h⟩ := and3 hc
      obtain ⟨h2, h⟩ := and3 h
      obtain ⟨h3, h⟩ := and3 h
      obtain ⟨h4, h5⟩ := and3 h
      obtain ⟨g1, g2, g3⟩ := chkLoc_ok h2 k
      refine (ps_set k.nd g1 g2 (c.sound sc X _ W h5 k q tk) (noSw_ok k h1) g3).imp fun D σ H h => ?_
      have hb : c.bor = none := by simpa using h4
      obtain ⟨fx, L, G, env, R, h⟩ := h
      refine ⟨fx, L, G, env, R, ER.post_mono (ER.post_bindS h) (fun d e1 _ h v H1 G1 R1 s1 r1 => ?_) (XWs.at σ)⟩
      rw [hb] at r1
      exact h _ H1 G1 (R1.set (by simpa using h3) r1) s1
    · cases hc
end C

set_option maxHeartbeats 4000000
set_option maxRecDepth 100000
namespace C
open PySem L2
theorem zip_lookup_isNone {x : Str} : ∀ (ps : List Str) (us : List Value), us.length = ps.length → x ∈ ps → ((ps.zip us).lookup x).isNone = false
  | [], _, _, h => by cases h
  | p :: ps, [], hl, _ => by cases hl
  | p :: ps, u :: us, hl, h => by
    rw [List.zip_cons_cons, List.lookup_cons]
    cases e : (x == p) with
    | true => rfl
    | false =>
      have : x ∈ ps := (List.mem_cons.mp h).resolve_left (fun z => by rw [z] at e; simp at e)
      exact zip_lookup_isNone ps us (by simpa using hl) this
theorem fm_congr {α β : Type} {f g : α → Option β} : ∀ (l : List α), (∀ x ∈ l, f x = g x) → l.filterMap f = l.filterMap g
  | [], _ => rfl
  | x :: l, h => by rw [List.filterMap_cons, List.filterMap_cons, h x List.mem_cons_self, fm_congr l fun y hy => h y (List.mem_cons_of_mem _ hy)]
theorem zip_filterMap : ∀ (ps : List Str) (us : List Value), ps.Nodup → us.length = ps.length → (ps.filterMap fun n => ((ps.zip us).lookup n).map fun x => (n, x)) = ps.zip us
  | [], _, _, _ => rfl
  | p :: ps, [], _, hl => by cases hl
  | p :: ps, u :: us, nd, hl => by
    obtain ⟨n1, n2⟩ := List.nodup_cons.mp nd
    have e : ∀ n ∈ ps, (((p :: ps).zip (u :: us)).lookup n).map (fun x => (n, x)) = ((ps.zip us).lookup n).map (fun x => (n, x)) := fun n hn => by
      rw [List.zip_cons_cons, List.lookup_cons]
      have : (n == p) = false := by
        simp only [beq_eq_false_iff_ne, ne_eq]
        intro z; rw [z] at hn; exact n1 hn
      rw [this]
    rw [List.filterMap_cons]
    have e0 : (((p :: ps).zip (u :: us)).lookup p) = some u := by simp [List.lookup_cons]
    rw [e0, fm_congr ps e, zip_filterMap ps us n2 (by simpa using hl)]
    rfl
theorem bind_plain {fd : FuncData} {ps : List Str} (h1 : fd.params.posonlyargs = []) (h0 : fd.params.args.map (·.arg) = ps) (h2 : fd.params.kwonlyargs = []) (h3 : fd.params.vararg = none) (h4 : fd.params.kwarg = none) (hd : fd.defaults = .none) (nd : ps.Nodup)
    (us : List Value) (hl : us.length = ps.length) : bindArgs fd ⟨us, []⟩ = pure (ps.zip us) := by
  have m : (ps.filter fun n => ((ps.zip us).lookup n).isNone) = [] := List.filter_eq_nil_iff.mpr fun x hx => by rw [zip_lookup_isNone ps us hl hx]; simp
  have ml : ¬ (us.length > ps.length) := by omega
  unfold bindArgs
  simp [h1, h0, h2, h3, h4, hd, hl, seqItems?, m, notAStandIn, zip_filterMap ps us nd hl]

theorem eval_sup {o : Expr} {m : Str} {apos pos p3 : Pos} {x : Str} {j : Nat} {env : PySem.Env} (hp : (apos.endLine == pos.line) = true) :
    eval (.Call (.Attribute o m apos) [.Constant (.str x) j p3] [] pos) env = (do
      let ov ← attributeBase o m env (eval o env)
      standAt apos.atName
      let (f, first) ← holding [ov] (getMethod ov m (do return (← importBound o env).getD true))
      callWith pos f first (backTo pos (starEach [.Constant (.str x) j p3] env)) []) := by
  show (do
    let ov ← attributeBase o m env (eval o env)
    standAt apos.atName
    methodCall o m apos pos env ov _ _ _) = _
  have h2 : methodCallPos true o env apos pos = pure pos := by unfold methodCallPos; rw [hp]; rfl
  have h1 : methodCallForm 1 (backTo pos (starEach [.Constant (.str x) j p3] env)) (backToKw pos (keywordEach [] env)) = true := rfl
  unfold methodCall
  simp only [List.length_cons, List.length_nil, Nat.zero_add, Nat.add_zero]
  rw [h1]
  simp only [h2, pure_bind]
  rfl
/-! ### an exception's own __init__: super().__init__(text), then fields -/
/-- what the written part must say of the class at c and of its __init__ at f -/
structure InC (P : Program) (K : Fg) (c f : Addr) : Prop where
  T : OexC K c
  iC : PySem.W.findIn K (.ref c) "__init__" = some (some (.ref f))
  tI : PySem.W.typeIn K (.ref f) = some (.type "function")
  hm : PySem.W.ks_superIn K c c "__init__" = some (some (.builtin "ValueError.__init__"))
  hB : PySem.W.subIn K (.ref c) (.type "ValueError") = some true
  ho : PySem.W.nsIn K cStatics "thirdparty.any" = some none
  hs : PySem.W.mroIn K c (.ref c) = some true
  top : (P.main.scope.names.lookup ("super" : Str)).isSome = false
abbrev xF (name qual : Str) (params : Arguments) (body : List Stmt) (scope : Scope) (cc cda : Addr) : NdefX.NF := ⟨name, qual, params, body, scope, [("__class__", cc)], cda⟩
section
variable {CX : CXT} {P : Program} {w : World} {K : Fg} {mg : Str → Option Value} {base : Heap} {N ps : List Str} {f c cc cda a : Addr} {A : Around} {outer : List PySem.Env} {s0 s : Shared} {H0 H : Hp} {E0 : XK} {name qual : Str} {params : Arguments} {body : List Stmt} {scope : Scope} {pins : List (Addr × Obj)} {σ : St}
theorem super_line {fd : FuncData} {ar : Arg} {vs : Array Value} {file m : Str} {tf : Tok} {oc ccl cl : Value} {od cdd cld : Option Addr} {osl ccs csl : Array (Option Value)} {j : Nat} {p0 p1 p2 p3 p4 p5 : Pos} {bd : List Stmt} {Q : Flow → Shared → Prop} {E : Value → Shared → Prop}
    (T : InC P K c f) (I : L2.Inv (NdefX.ncx CX P w K mg base N (xF name qual params body scope cc cda) f A outer s0 H0 E0) pins σ H s) (ea : H a = some (exo a c none))
    (hf : K.lookup f = some ⟨oc, od, .func fd, osl⟩) (hp : (fd.params.posonlyargs ++ fd.params.args).head? = some ar) (hN : N[0]? = some ar.arg) (hσ : σ[0]? = some (some (.ref a)))
    (hcode : K.lookup cda = some ⟨ccl, cdd, .fields vs, ccs⟩) (hvs : vs[2]? = some (.str file tf)) (hfile : ((P.main.file : Str) == file) = true)
    (hcell : K.lookup cc = some ⟨cl, cld, .cell (some (.ref c)), csl⟩) (hsuper : mg "super" = none) (hks : scope.names.lookup ("super" : Str) = some .globalImplicit) (hkc : scope.names.lookup ("__class__" : Str) = some .free) (hep : (p2.endLine == p4.line) = true) (hka : scope.names.lookup ar.arg = some .local) (hk : scope.kind = .function)
    (h : ∀ s', L2.Inv (NdefX.ncx CX P w K mg base N (xF name qual params body scope cc cda) f A outer s0 H0 E0) pins σ H s' → Q .next s') :
    _root_.PySem.wpAt (model P w) (A.deeper (NdefX.envF (xF name qual params body scope cc cda) f s0.heap.objs.size)) (.func bd (NdefX.envF (xF name qual params body scope cc cda) f s0.heap.objs.size))
      (exec (.Expr (.Call (.Attribute (.Call (.Name "super" p0) [] [] p1) "__init__" p2) [.Constant (.str m) j p3] [] p4) p5) (NdefX.envF (xF name qual params body scope cc cda) f s0.heap.objs.size)) Q E s := by
  obtain ⟨nm, q, N', bs, bm, sn, sub, ab, col, dd, k0, k1, k2, k3, k5, hC, hbm⟩ := T.T.cls
  have hcl : PySem.W.clsIn K c = some { name := nm, bases := bs, mro := .ref c :: bm, ns := N', qualname := q, hasDict := true, slotNames := sn, subclasses := sub, abstract := ab, collection := col, hasDel := false } := by unfold PySem.W.clsIn; rw [hC] <;> rfl
  have Y : K.In s.heap := I.kIn
  obtain ⟨t1, hoa⟩ := exo_at I.hok ea
  obtain ⟨mb, hb1, hb2⟩ := I.mod.blt
  obtain ⟨mL, hn, hlk⟩ := id I.loc
  have hself : mL ar.arg = some (.ref a) := by
    obtain ⟨u, ru, lk⟩ := hlk 0 ar.arg (.ref a) hN hσ (.inl hka)
    cases ru
    rcases lk with ⟨_, z⟩ | ⟨z, _⟩
    · exact z
    · have z' : scope.names.lookup ar.arg = some .cell ∨ scope.names.lookup ar.arg = some .free := z
      rw [hka] at z'
      rcases z' with z' | z' <;> cases z'
  refine ks_wpAt_Expr_any (ks_wpAt_MethodCall ?_ (eval_sup hep)) (by unfold interactive; show (scope.kind == .module && _) = false; rw [hk]; rfl)
  refine ks_wpAt_super_base (env := NdefX.envF (xF name qual params body scope cc cda) f s0.heap.objs.size) hks hkc (by decide) rfl (Y _ _ hf) rfl hp rfl (Y _ _ hcode) rfl hvs hfile T.top ?_
  refine PySem.W.ks_loadName_global hk hks (Calls.loadGlobal_builtin (env := NdefX.envF (xF name qual params body scope cc cda) f s0.heap.objs.size) (I.mod.glob.keeps I.bk) hsuper (hb1.keeps I.bk) ((hb2 _ (by decide)).trans PyProof.Rows.Boot.super) ⟨rfl, ?_⟩)
  refine wpAny_loadName_free hk hkc rfl ⟨_, Y _ _ hcell, rfl⟩ ?_
  refine wpAny_loadName_local hk hka hn hself ?_
  refine ks_wpAny_isType_cls (Y _ _ hC) rfl ⟨rfl, ?_⟩
  obtain ⟨hp', g, d, t, os⟩ := s
  refine ks_wpAny_call_super (Y _ _ hC) rfl hoa rfl (fun c e => by cases e) (PySem.W.looks_mroIn Y T.hs) (fun h' hso kk => ?_)
  have I1 : L2.Inv _ pins σ H ⟨h', g, d, t, os⟩ := I.kept (t' := t) kk
  have hoa1 := kk _ _ hoa
  have Y1 : K.In h' := I1.kIn
  have IA : PySem.W.InstAt h' a { cls := .ref c, dict := none, data := .fields #[.ref t1, .none, .none, .none, .bool false, .none] } c none := ⟨hoa1, rfl, rfl, trivial⟩
  have hm := T.hm
  unfold PySem.W.ks_superIn at hm
  rw [hcl] at hm
  refine PySem.W.kxs_getMethod PySem.W.kxs_ValueError hso (PySem.W.looks_opaque Y1 T.ho) (l₀ := .ref c :: bm) (fun A Q E s k q => wpAny_bind ((PySem.W.looks_clsIn Y1 hcl) A _ E s k (wpAny_pure q))) rfl Y1 hm (IA.type.andThen (PySem.W.looks_subIn Y1 T.hB)) (PySem.W.ks_ne Y1 IA hcl) (by decide) ?_
  have kk2 : ∀ b u, h'.get? b = some u → (h'.push (PySem.W.kxs_mw "ValueError.__init__" a)).get? b = some u := fun b u e => Heap.get?_push_of_some _ e
  have I2 : L2.Inv _ pins σ H ⟨h'.push (PySem.W.kxs_mw "ValueError.__init__" a), g, d, t + 1, os⟩ := I1.kept (t' := t + 1) kk2
  have hu : (h'.push (PySem.W.kxs_mw "ValueError.__init__" a)).get? h'.objs.size = some (PySem.W.kxs_mw "ValueError.__init__" a) := Heap.get?_push_at rfl rfl
  refine PySem.W.kxs_callWith (i := "ValueError.__init__") (x := a) rfl (Calls.evalArgs_plain (Calls.spliced_cons ?_))
  refine Calls.Constant_str (k := j) (pos := p3) (Calls.spliced_nil ⟨hu, ?_⟩)
  refine wpAny_call (codeAny_of_tree ?_)
  show wpAny _ _ (callAny (.ref h'.objs.size) ⟨[.str m (t + 1)], []⟩) _ _ _
  simp only [callAny]
  refine wpAny_bind (wpAny_load hu ?_)
  simp only [PySem.W.kxs_mw, show (Value.type "method-wrapper" == Value.type "method" || Value.type "method-wrapper" == Value.type "builtin_function_or_method" || Value.type "method-wrapper" == Value.type "method-wrapper") = true by decide, if_true]
  refine PySem.W.KFB.if_so (by decide) ?_
  refine wpAny_bind (PySem.W.check_bound_init F.excBase_ValueError.toExcCallFacts (I2.kIn _ _ hC) (kk2 _ _ hoa1) rfl ?_)
  refine wpAny_bind (wpAny_pure (wpAny_pure ?_))
  refine ⟨plainId_quiet F.excBase_ValueError.init.plain _, codeAny_builtin F.excBase_ValueError.initEntry ?_⟩
  refine PySem.W.exc_init_tree (cls := .ref c) (t0 := t1) (dv := none) (c2 := .none) (c3 := .none) (b4 := .bool false) (kk2 _ _ hoa1) (by show 1 ≤ sizeLine; rw [sizeLine_eq]; omega) fun h3 k3 e3 _ => ?_
  have I2' := I2.tok (t + 1 + 1)
  have J := I2'.write (t' := t + 1 + 1) (x := a) (e := a) (o := exo a c none) (by rw [ea]; exact True.intro) (.inl rfl) k3 ⟨_, e3⟩ (exo_ok e3)
  have eu : upd H a (exo a c none) = H := by
    funext b
    by_cases hb : b = a
    · rw [hb, upd_same, ea]
    · rw [upd_ne hb]
  rw [eu] at J
  exact h _ J
end
end C

set_option maxRecDepth 100000
set_option maxHeartbeats 4000000
namespace C
open PySem L2
/-! ### the fields of an exception -/
def chkSt : List Str → List Stmt → Bool
  | [], [] => true
  | x :: xs, .Assign [.Attribute (.Name z _) g _] (.Name y _) _ :: r => decide (z = "self") && (decide (g = x) && (decide (y = x) && chkSt xs r))
  | _, _ => false
def tFs (K : Fg) : Nat → List Str → TS
  | _, [] => tNext
  | k, x :: xs => tSeq (tOst K x (tVar 0) (tVar k)) (tFs K (k + 1) xs)
theorem pss_fs {X : Cx} (hs : X.N[0]? = some ("self" : Str)) (vs : X.env.scope.names.lookup ("self" : Str) = some .local) : ∀ (k : Nat) (xs : List Str) (b : List Stmt), chkSt xs b = true → (∀ i x, xs[i]? = some x → X.N[k + i]? = some x ∧ X.env.scope.names.lookup x = some .local ∧ (x == ("__debug__" : Str)) = false ∧ (x == ("__classdict__" : Str)) = false) → PSs X b (tFs X.K k xs)
  | k, [], b, hc, _ => by
    cases b with
    | nil => exact pss_nil
    | cons _ _ => cases hc
  | k, x :: xs, b, hc, hx => by
    unfold chkSt at hc
    split at hc
    · rename_i h; cases h
    · rename_i h
      cases h
      obtain ⟨h1, h⟩ := and3 hc
      obtain ⟨h2, h⟩ := and3 h
      obtain ⟨h3, h4⟩ := and3 h
      rw [of_decide_eq_true h1, of_decide_eq_true h2, of_decide_eq_true h3]
      obtain ⟨e1, e2, e3, e4⟩ := hx 0 x rfl
      exact pss_cons (ps_ost (pe_var hs (.inl vs) (by decide) (by decide)) (pe_var e1 (.inl e2) e3 e4)) (pss_fs hs vs (k + 1) xs _ h4 fun i y e => by
        obtain ⟨g1, g2⟩ := hx (i + 1) y (by simpa using e)
        exact ⟨by rw [show k + 1 + i = k + (i + 1) by omega]; exact g1, g2⟩)
    · cases hc
/-- behind the fields: nothing, or the exception has its dict -/
def InEnd (a c : Addr) (l : List (Str × V)) (H H' : Hp) : Prop := (l = [] ∧ H' = H) ∨ ∃ dx, l ≠ [] ∧ H dx = none ∧ dx ≠ a ∧ H' a = some (exo a c (some dx)) ∧ H' dx = some (exd dx l.reverse) ∧ ∀ b, b ≠ a → b ≠ dx → H' b = H b
theorem fs_old {K : Fg} {a c dx : Addr} {D : Ends} {σ : St} (T : OexC K c) (e0 : σ[0]? = some (some (.ref a))) (na : dx ≠ a) : ∀ (xs : List Str) (ws : List V) (k : Nat) (fs : List (Str × V)) (H : Hp), ws.length = xs.length → (∀ i w, ws[i]? = some w → σ[k + i]? = some (some w)) → fs.length + xs.length ≤ 900 → (∀ x ∈ xs, PySem.W.findIn K (.ref c) x = some none) →
    H a = some (exo a c (some dx)) → H dx = some (exd dx fs) → (∀ H', H' a = some (exo a c (some dx)) → H' dx = some (exd dx ((xs.zip ws).reverse ++ fs)) → (∀ b, b ≠ a → b ≠ dx → H' b = H b) → D.nx σ H') → tFs K k xs D σ H
  | [], ws, k, fs, H, hl, hw, hn, hf, ha, hd, q => by
    cases ws with
    | nil => exact q H ha hd fun _ _ _ => rfl
    | cons _ _ => cases hl
  | x :: xs, [], k, fs, H, hl, hw, hn, hf, ha, hd, q => by cases hl
  | x :: xs, w :: ws, k, fs, H, hl, hw, hn, hf, ha, hd, q => by
    have hn' : fs.length + (xs.length + 1) ≤ 900 := hn
    refine ⟨_, hw 0 w rfl, _, e0, a, c, rfl, T, hf x List.mem_cons_self, .inr ⟨dx, fs, ha, hd, by omega, ?_⟩⟩
    refine fs_old T e0 na xs ws (k + 1) ((x, w) :: fs) _ (by simpa using hl) (fun i v e => ?_) (by rw [List.length_cons]; omega) (fun y hy => hf y (List.mem_cons_of_mem _ hy)) (by rw [upd_ne (Ne.symm na)]; exact ha) upd_same fun H' h1 h2 h3 => ?_
    · rw [show k + 1 + i = k + (i + 1) by omega]; exact hw (i + 1) v (by simpa using e)
    · refine q H' h1 ?_ fun b hb hb' => (h3 b hb hb').trans (upd_ne hb')
      rw [h2, List.zip_cons_cons, List.reverse_cons, List.append_assoc]
      rfl
theorem fs_new {K : Fg} {a c : Addr} {D : Ends} {σ : St} (T : OexC K c) (e0 : σ[0]? = some (some (.ref a))) {xs : List Str} {ws : List V} {k : Nat} {H : Hp} (hl : ws.length = xs.length) (hw : ∀ i w, ws[i]? = some w → σ[k + i]? = some (some w)) (hn : xs.length ≤ 900) (hf : ∀ x ∈ xs, PySem.W.findIn K (.ref c) x = some none)
    (ha : H a = some (exo a c none)) (q : ∀ H', InEnd a c (xs.zip ws) H H' → D.nx σ H') : tFs K k xs D σ H := by
  cases xs with
  | nil =>
    cases ws with
    | nil => exact q H (.inl ⟨rfl, rfl⟩)
    | cons _ _ => cases hl
  | cons x xs =>
    cases ws with
    | nil => cases hl
    | cons w ws =>
      refine ⟨_, hw 0 w rfl, _, e0, a, c, rfl, T, hf x List.mem_cons_self, .inl ⟨ha, fun dx hd na => ?_⟩⟩
      refine fs_old T e0 na xs ws (k + 1) [(x, w)] _ (by simpa using hl) (fun i v e => ?_) (by simp at hn ⊢; omega) (fun y hy => hf y (List.mem_cons_of_mem _ hy)) upd_same (by rw [upd_ne na]; exact upd_same) fun H' h1 h2 h3 => ?_
      · rw [show k + 1 + i = k + (i + 1) by omega]; exact hw (i + 1) v (by simpa using e)
      · refine q H' (.inr ⟨dx, by simp, hd, na, h1, ?_, fun b hb hb' => ?_⟩)
        · rw [h2, List.zip_cons_cons, List.reverse_cons]
        · rw [h3 b hb hb', upd_ne hb, upd_ne hb']
/-- the promise of such an __init__ -/
def spIn (c : Addr) (xs : List Str) : Sp := fun vs H Q _ => ∃ a ws, vs = .ref a :: ws ∧ ws.length = xs.length ∧ H a = some (exo a c none) ∧ ∀ H', InEnd a c (xs.zip ws) H H' → Q .non H'
def chkIn (xs : List Str) : List Stmt → Bool
  | .Expr (.Call (.Attribute (.Call (.Name u _) [] [] _) i p2) [.Constant (.str _) _ _] [] p4) _ :: r => decide (u = "super") && (decide (i = "__init__") && ((p2.endLine == p4.line) && chkSt xs r))
  | _ => false
/-- what the written part must say of the __init__ at f -/
def initB (P : Program) (K : Fg) (c f : Addr) (xs : List Str) : Bool := match K.lookup f with
  | some ⟨_, _, .func ⟨_, qual, params, .stmts body, scope, gl, [(n, cc)], .none, _, _, _, _, .ref cda, _, bl⟩, _⟩ =>
    decide (n = "__class__") && (decide (gl = mainGlobals) && (decide (bl = builtinsNs) && (PySem.W.codeIn K (.ref cda) qual && (chkIn xs body && (NdefX.nscB ((("self" : Str) :: xs) ++ [("__class__" : Str)]) (("self" : Str) :: xs) [("__class__" : Str)] scope && (decide (params.posonlyargs.length = 0) && (decide (params.args.map (·.arg) = ("self" : Str) :: xs) && (decide (params.kwonlyargs.length = 0) && (params.vararg.isNone && (params.kwarg.isNone &&
    (decide (scope.names.lookup ("super" : Str) = some .globalImplicit) && (xs.all (fun x => !(x == ("__debug__" : Str)) && (!(x == ("__classdict__" : Str)) && decide (PySem.W.findIn K (.ref c) x = some none))) && (decide (xs.length ≤ 900) &&
    ((match K.lookup cc with | some ⟨_, _, .cell (some (.ref D)), _⟩ => decide (D = c) | _ => false) &&
    (match K.lookup cda with | some ⟨_, _, .fields vs, _⟩ => (match (vs : Array Value)[2]? with | some (Value.str file _) => (P.main.file : Str) == file | _ => false) | _ => false)))))))))))))))
  | _ => false

theorem start_nth {N : List Str} {vs : List V} {ws : List (Option V)} {i : Nat} {v : V} (h : vs[i]? = some v) : (NdefX.startF N vs ws)[i]? = some (some v) := by
  unfold NdefX.startF
  have hl := (List.getElem?_eq_some_iff.mp h).1
  rw [List.getElem?_append_left (by rw [List.length_map]; exact hl), List.getElem?_map, h]
  rfl
theorem init_ok {CX : CXT} {P : Program} {w : World} {K : Fg} {mg : Str → Option Value} {base : Heap} {c f : Addr} {xs : List Str} (T : InC P K c f) (h : initB P K c f xs = true) (hsuper : mg "super" = none) :
    ∃ fd, FnOk P w K mg base CX 1 f fd ("self" :: xs) (spIn c xs) ∧ Binds K fd ("self" :: xs) [] := by
  unfold initB at h
  split at h
  · rename_i oc od name qual params body scope gl n cc kV doc pm an cda ct bl osl lk
    obtain ⟨h1, h⟩ := and3 h
    obtain ⟨h2, h⟩ := and3 h
    obtain ⟨h3, h⟩ := and3 h
    obtain ⟨h4, h⟩ := and3 h
    obtain ⟨h5, h⟩ := and3 h
    obtain ⟨h6, h⟩ := and3 h
    obtain ⟨h7, h⟩ := and3 h
    obtain ⟨h8, h⟩ := and3 h
    obtain ⟨h9, h⟩ := and3 h
    obtain ⟨h10, h⟩ := and3 h
    obtain ⟨h11, h⟩ := and3 h
    obtain ⟨h12, h⟩ := and3 h
    obtain ⟨h13, h⟩ := and3 h
    obtain ⟨h14, h⟩ := and3 h
    obtain ⟨h15, h16⟩ := and3 h
    clear h
    have e1 := of_decide_eq_true h1
    have e2 := of_decide_eq_true h2
    have e3 := of_decide_eq_true h3
    subst e1 e2 e3
    have S := NdefX.nscope_by h6
    have pz : params.posonlyargs = [] := List.eq_nil_of_length_eq_zero (of_decide_eq_true h7)
    have kz : params.kwonlyargs = [] := List.eq_nil_of_length_eq_zero (of_decide_eq_true h9)
    have az := of_decide_eq_true h8
    have nps : (("self" : Str) :: xs).Nodup := by
      have := S.nd
      exact (List.nodup_append.mp this).1
    have hbd : ∀ us : List Value, us.length = (("self" : Str) :: xs).length → bindArgs ⟨name, qual, params, .stmts body, scope, mainGlobals, [("__class__", cc)], .none, kV, doc, pm, an, .ref cda, ct, builtinsNs⟩ ⟨us, []⟩ = pure ((("self" : Str) :: xs).zip us) := fun us hl =>
      bind_plain pz az kz (by simpa using h10) (by simpa using h11) rfl nps us hl
    refine ⟨_, ⟨fun vs H Q E h => ?_, fun A outer s H args us vs Q E hr e0 hb r hsp => ?_⟩, Binds.all hbd⟩
    · obtain ⟨a, ws, rfl, hl, _⟩ := h
      rw [List.length_cons, List.length_cons, hl]
    · obtain ⟨a, ws, rfl, hl, ha, hQ⟩ := hsp
      have KX : K.In s.heap := e0.mod.kin.keeps fun b o e => (e0.bs b o e).1
      have lim : s.heap.NoLimit := e0.mod.nolimit.keeps fun b o e => (e0.bs b o e).1
      cases lc : K.lookup cc with
      | none => rw [lc] at h15; cases h15
      | some occ =>
        obtain ⟨cl, cld, cdt, csl⟩ := occ
        rw [lc] at h15
        split at h15
        · rename_i D he
          cases he
          have eD := of_decide_eq_true h15
          subst eD
          cases lcd : K.lookup cda with
          | none => rw [lcd] at h16; cases h16
          | some ocd =>
            obtain ⟨ccl, cdd, cddt, ccs⟩ := ocd
            rw [lcd] at h16
            split at h16
            · rename_i vs he
              cases he
              split at h16
              · rename_i file tf hvs
                have pe : params.args ≠ [] := fun z => by rw [z] at az; cases az
                obtain ⟨ar, rest, hpe⟩ := List.exists_cons_of_ne_nil pe
                have har : ar.arg = "self" := by
                  rw [hpe] at az
                  exact (List.cons.inj az).1
                have Cs : NdefX.CellsAt [(("__class__" : Str), cc)] [("__class__" : Str)] [none] s.heap H := by
                  have hc0 : H cc = none := (e0.bs cc _ (e0.mod.kin _ _ lc)).2
                  have look : ∀ y d, [(("__class__" : Str), cc)].lookup y = some d → y = "__class__" ∧ d = cc := fun y d e => by
                    rw [List.lookup_cons] at e
                    cases q : (y == ("__class__" : Str)) with
                    | true => rw [q] at e; cases e; exact ⟨by simpa using q, rfl⟩
                    | false => rw [q] at e; cases e
                  refine ⟨rfl, fun y d e => ?_, fun x y d e1 e2 => ?_, fun i y e => ?_⟩
                  · obtain ⟨_, rfl⟩ := look y d e
                    exact ⟨hc0, _, _, KX _ _ lc, rfl⟩
                  · rw [(look x d e1).1, (look y d e2).1]
                  · cases i with
                    | zero => cases e; exact ⟨cc, by simp, fun v z => by cases z⟩
                    | succ i => simp at e
                refine ks_codeAny_call_defAt hr.depth (KX _ _ lk) rfl lim (PySem.W.codeRec_of KX h4) rfl hb S.nocell (fun ⟨n, v⟩ hy => S.par n (List.of_mem_zip hy).1) (fun h₁ hns hk₁ => ?_) S.co S.gen S.kind
                have I : L2.Inv (NdefX.ncx CX P w K mg base ((("self" : Str) :: xs) ++ [("__class__" : Str)]) (xF name qual params body scope cc cda) f A outer s H E) [] (NdefX.startF ((("self" : Str) :: xs) ++ [("__class__" : Str)]) (.ref a :: ws) [none]) H { s with heap := h₁, toks := s.toks + ((("self" : Str) :: xs).zip us).length } :=
                  NdefX.inv_startN (F := xF name qual params body scope cc cda) S hr.hd e0 (by rw [List.length_cons, List.length_cons, hl]) r Cs hns hk₁
                unfold chkIn at h5
                split at h5
                · obtain ⟨g1, g⟩ := and3 h5
                  obtain ⟨g2, g⟩ := and3 g
                  obtain ⟨g3, g4⟩ := and3 g
                  rw [of_decide_eq_true g1, of_decide_eq_true g2]
                  refine ks_wpAt_execs_cons (super_line T I ha lk (ar := ar) (by show (params.posonlyargs ++ params.args).head? = _; rw [pz, hpe]; rfl) (by rw [har]; rfl) rfl lcd hvs h16 lc hsuper (of_decide_eq_true h12) (S.frk _ (by simp)) g3 (by rw [har]; exact S.par _ List.mem_cons_self) S.kind fun s' J => ?_)
                  have ps := fun bd => pss_fs (X := NdefX.ncx CX P w K mg base ((("self" : Str) :: xs) ++ [("__class__" : Str)]) (xF name qual params bd scope cc cda) f A outer s H E) rfl (S.par _ List.mem_cons_self) 1 xs _ g4 (fun i x e => by
                    have hx := List.all_eq_true.mp h13 x (List.mem_of_getElem? e)
                    obtain ⟨x1, x2⟩ := and3 hx
                    obtain ⟨x2, x3⟩ := and3 x2
                    refine ⟨?_, S.par _ (List.mem_cons_of_mem _ (List.mem_of_getElem? e)), by simpa using x1, by simpa using x2⟩
                    show ((("self" : Str) :: xs) ++ [("__class__" : Str)])[1 + i]? = some x
                    rw [List.getElem?_append_left (by have := (List.getElem?_eq_some_iff.mp e).1; simp; omega), Nat.add_comm, List.getElem?_cons_succ]
                    exact e)
                  refine wpAt_of_wpAny (wpAny_mono ((ps _).run [] s' _ H { nx := fun _ H' => Q .non H', rt := Q } J (fs_new T.T (start_nth rfl) hl (fun i v e => start_nth (by rw [Nat.add_comm, List.getElem?_cons_succ]; exact e)) (of_decide_eq_true h14) (fun x hx => by
                    obtain ⟨_, x2⟩ := and3 (List.all_eq_true.mp h13 x hx)
                    exact of_decide_eq_true (and3 x2).2) ha hQ)) (fun fl s'' hs => ?_) fun e s'' hs => hs)
                  cases fl with
                  | ret u =>
                    obtain ⟨v, σ', H', J', rv, q⟩ := hs
                    exact ⟨v, H', J'.os, J'.bare, J'.base, J'.hok, rv, q⟩
                  | next =>
                    obtain ⟨σ', H', J', q⟩ := hs
                    exact ⟨.non, H', J'.os, J'.bare, J'.base, J'.hok, rfl, q⟩
                  | brk =>
                    obtain ⟨_, _, _, q⟩ := hs
                    exact False.elim q
                  | cont =>
                    obtain ⟨_, _, _, q⟩ := hs
                    exact False.elim q
                · cases h5
              · cases h16
            · cases h16
        · cases h15
  · cases h
end C

set_option maxRecDepth 100000
set_option maxHeartbeats 4000000
namespace C
open PySem L2
/-! ### an exception is made -/
section
variable {X : Cx} {pins : List (Addr × Obj)} {σ : St}
/-- an exception without fields is let go -/
theorem let_go {H1 : Hp} {s1 s2 : Shared} {hp2 : Heap} {a c : Addr} (I1 : Inv X pins σ H1 s1) (big : s1.heap.objs.size ≤ a) (k : ∀ b o, s1.heap.get? b = some o → hp2.get? b = some o)
    (un : Un (frs X.stack) [] (L2.upd H1 a (exo a c none)) (L2.upd H1 a (exo a c none)) hp2 s2.heap) (hok : HOk X.prog X.w (L2.upd H1 a (exo a c none)) s2.heap) (ho : s2.os = s1.os) (hb : PyProof.Rows.AllBare s2.gens) :
    ∃ G : Heap, Inv X pins σ H1 { s2 with heap := G } ∧ (∀ b o, G.get? b = some o → s2.heap.get? b = some o) ∧ G.get? a = none := by
  obtain ⟨G, on, off⟩ := restrict s2.heap fun b => decide (b ≠ a)
  have ge : ∀ {b : Addr}, b ≠ a → G.get? b = s2.heap.get? b := fun {b} z => on b (decide_eq_true z)
  have gn : G.get? a = none := off a (by simp)
  have h1a : H1 a = none := I1.hok.fresh big
  have old : ∀ {b : Addr} {o : Obj}, s1.heap.get? b = some o → b ≠ a := fun {b o} e z => by
    have := Heap.lt_size e
    rw [z] at this
    exact absurd (Nat.lt_of_lt_of_le this big) (Nat.lt_irrefl _)
  have trk : ∀ {b : Addr} {o : HO}, H1 b = some o → b ≠ a := fun {b o} e z => by rw [z, h1a] at e; cases e
  have eqn : ∀ {b : Addr}, b ≠ a → L2.upd H1 a (exo a c none) b = H1 b := fun {b} z => upd_ne z
  have U : Un (frs X.stack) [] H1 H1 s1.heap G := by
    refine ⟨fun b o e n hf hx => ?_, fun b o e n hf hx => ?_, fun b o _ n _ => n, fun b o e hx => ?_, fun _ _ e => e, fun _ _ _ e => e, fun b ps e => ⟨#[], by rw [e]; simp⟩⟩
    · rw [ge (old e)]; exact un.keep b o (k b o e) ((eqn (old e)).trans n) hf hx
    · obtain ⟨sl, z⟩ := un.slot b o (k b o e) ((eqn (old e)).trans n) hf hx
      exact ⟨sl, (ge (old e)).trans z⟩
    · obtain ⟨o', z⟩ := un.there b o (k b o e) hx
      exact ⟨o', (ge (old e)).trans z⟩
  have hk : HOk X.prog X.w H1 G := fun b o e => by
    refine (hok b o ((eqn (trk e)).trans e)).stay (fun d v hd z => ?_) (fun d z => ?_) fun d xs z => ?_
    · have : d ≠ a := hd.elim (fun q => q ▸ trk e) fun q => at_ne upd_same q exo_own
      rw [ge this]; exact z
    · have : d ≠ a := at_ne upd_same z exo_own
      rw [eqn this] at z; exact z
    · have : d ≠ a := at_ne upd_same z exo_tup
      rw [eqn this] at z; exact z
  exact ⟨G, I1.call' (s' := { s2 with heap := G }) (ch := []) ho U hk hb (fun b z => nomatch z), fun b o e => (ge (fun z => by rw [z, gn] at e; cases e)).symm.trans e, gn⟩
/-- what the maker of an exception wants -/
def XMade (c : Addr) (xs : List Str) (vs : List V) (H1 : Hp) (Q : XK) : Prop := vs.length = xs.length ∧ (xs = [] → Q (.ref c) none H1) ∧ (xs ≠ [] → ∀ dx, H1 dx = none → Q (.ref c) (some dx) (L2.upd H1 dx (.xd (xs.zip vs).reverse)))
theorem run_x {CX : CXT} {c f : Addr} {fd : FuncData} {xs : List Str} {H1 : Hp} {s : Shared} {Q : XK} {us : List Value} {vs : List V} (T : InC X.prog X.K c f) (F1 : FnOk X.prog X.w X.K X.mg X.base CX 1 f fd ("self" :: xs) (spIn c xs)) (hr : Room 2 X.A) (hb : Binds X.K fd ("self" :: xs) [])
    (hx : Passes CX X (fun _ _ _ => False)) (hz : xs.length ≤ 900) (I1 : Inv X pins σ H1 s) (r1 : Vals vs us) (q : XMade c xs vs H1 Q) : wpAny (model X.prog X.w) X.A (call (.ref c) us) (MkP X pins σ Q) X.xe s := by
  obtain ⟨nm, qn, N, bs, bm, sn, sub, ab, col, dd, k0, k1, k2, k3, k5, hC, hbm⟩ := T.T.cls
  obtain ⟨hl, q0, q1⟩ := q
  obtain ⟨hp, g, dr, tk, os⟩ := s
  have big : hp.objs.size ≤ hp.objs.size + 1 := Nat.le_succ _
  have hn : H1 (hp.objs.size + 1) = none := I1.hok.fresh big
  have kk : ∀ b o, hp.get? b = some o → ((hp.push (PySem.W.kdv_tup us)).push (PySem.HandSPX.excO c hp.objs.size)).get? b = some o := fun b o e => Heap.get?_push_of_some _ (Heap.get?_push_of_some _ e)
  have hget : ((hp.push (PySem.W.kdv_tup us)).push (PySem.HandSPX.excO c hp.objs.size)).get? (hp.objs.size + 1) = some (PySem.HandSPX.excO c hp.objs.size) := by heap_get
  have J2 := I1.laid (t' := tk) (a := hp.objs.size + 1) (o := exo (hp.objs.size + 1) c none) (h' := (hp.push (PySem.W.kdv_tup us)).push (PySem.HandSPX.excO c hp.objs.size)) kk big (exo_ok hget)
  have r2 : Vals (V.ref (hp.objs.size + 1) :: vs) (Value.ref (hp.objs.size + 1) :: us) := .cons rfl r1
  have ul : us.length = xs.length := by rw [← Paired.length r1]; exact hl
  have sp : spIn c xs (V.ref (hp.objs.size + 1) :: vs) (L2.upd H1 (hp.objs.size + 1) (exo (hp.objs.size + 1) c none)) (fun v H2 => v = .non ∧ InEnd (hp.objs.size + 1) c (xs.zip vs) (L2.upd H1 (hp.objs.size + 1) (exo (hp.objs.size + 1) c none)) H2) (fun _ _ _ => False) := ⟨_, vs, rfl, hl, upd_same, fun H' z => ⟨rfl, z⟩⟩
  have bt := hb _ (Value.ref (hp.objs.size + 1) :: us) J2.kIn (by rw [List.append_nil, List.length_cons, List.length_cons, ul])
  rw [List.append_nil] at bt
  refine wpAny_call (PySem.HandSPX.call_own F.excBase_ValueError (fun Y => PySem.HandSPX.refsVE_contains Y bm hbm) (I1.kIn _ _ hC) (PySem.W.looks_findIn I1.kIn T.iC) (fun self => PySem.W.bind_fn I1.kIn self T.tI) (by rw [ul, sizeLine_eq]; omega)
    (codeAny_mono (F1.run _ X.stack _ _ ⟨Value.ref (hp.objs.size + 1) :: us, []⟩ (Value.ref (hp.objs.size + 1) :: us) _ _ (fun _ _ _ => False) (hr.make c us []) (J2.env0.make c us []) bt r2 sp) fun r s' z => ?_))
  cases r with
  | error er => exact hx pins σ _ _ er s' J2 z
  | ok fl =>
    cases fl with
    | next => exact False.elim z
    | brk => exact False.elim z
    | cont => exact False.elim z
    | ret u =>
      obtain ⟨v, H2, os2, bare2, un2, hok2, rv, ev, ie⟩ := z
      subst ev
      refine ⟨rv, ?_⟩
      rcases ie with ⟨e0, rfl⟩ | ⟨dx, en, hd, na, e1, e2, e3⟩
      · have ex : xs = [] := by
          cases xs with
          | nil => rfl
          | cons x xs =>
            cases vs with
            | nil => cases hl
            | cons v vs => cases e0
        obtain ⟨G, J, kG, gn⟩ := let_go (s1 := ⟨hp, g, dr, tk, os⟩) (s2 := s') I1 big kk un2 hok2 os2 bare2
        obtain ⟨t0, hoe⟩ := exo_at hok2 (upd_same)
        exact ⟨hp.objs.size + 1, _, _, { s' with heap := G }, H1, .ref c, none, rfl, J, kG, gn, hoe, ⟨rfl, rfl⟩, rfl, rfl, hn, rfl, bare2, raises_own T.T.exC T.T.tyC, q0 ex⟩
      · have ex : xs ≠ [] := fun z => en (by rw [z]; rfl)
        have hd1 : H1 dx = none := by rw [upd_ne na] at hd; exact hd
        obtain ⟨h2, g2, d2, t2, o2⟩ := s'
        obtain ⟨t0, G, J, kG, ge, hoe, nx⟩ := mk_end0 (d2 := d2) (t2 := t2) I1 big kk un2 hok2 os2 bare2 e1 e2 hd1
        have eH : L2.upd (del H2 (hp.objs.size + 1)) dx (.xd (xs.zip vs).reverse) = L2.upd H1 dx (.xd (xs.zip vs).reverse) := by
          funext b
          by_cases hb : b = dx
          · rw [hb, upd_same, upd_same]
          · rw [upd_ne hb, upd_ne hb]
            by_cases hb2 : b = hp.objs.size + 1
            · rw [hb2, del_same, hn]
            · rw [del_ne hb2, e3 b hb2 hb, upd_ne hb2]
        rw [eH] at J nx
        exact ⟨_, _, _, ⟨G, g2, d2, t2, o2⟩, _, .ref c, some dx, rfl, J, kG, ge, hoe, ⟨rfl, rfl⟩, rfl, rfl, nx, rfl, bare2, raises_own T.T.exC T.T.tyC, q1 ex dx hd1⟩
end
end C

set_option maxRecDepth 100000
set_option maxHeartbeats 4000000
namespace C
open PySem L2
theorem pmk_x {X : Cx} {CX : CXT} {c f : Addr} {fd : FuncData} {xs : List Str} {x : Str} {es : List Expr} {t : TA} {p pos : Pos} (T : InC X.prog X.K c f) (F1 : FnOk X.prog X.w X.K X.mg X.base CX 1 f fd ("self" :: xs) (spIn c xs)) (hr : Room 2 X.A) (hb : Binds X.K fd ("self" :: xs) [])
    (hx : Passes CX X (fun _ _ _ => False)) (hz : xs.length ≤ 900) (hg : Gl X x) (hm : X.mg x = some (.ref c)) (hd : (x == ("__debug__" : Str)) = false) (ha : PA X es t) (h0 : es = [] → ∀ σ H Q, t σ H Q → Q [] H) (ns : es.all notStar = true) :
    PMk X (.Call (.Name x p) es [] pos) (fun σ H Q => t σ H fun vs H1 => XMade c xs vs H1 Q) := by
  intro pins s σ H Q I h
  refine wpAny_Call_Name_kw (ld_glob I hg hm ?_ hd)
  cases es with
  | nil => exact PySem.W.callWith_K0 I.kIn T.T.kC (run_x (us := []) T F1 hr hb hx hz I .nil (h0 rfl σ H _ h))
  | cons e es =>
    rw [List.all_cons] at ns
    refine PySem.W.callWith_K (h₀ := X.base) I.ok.mod.kin T.T.kC (thn (ha.run pos pins s σ H _ I h) fun us s2 z => ?_) (notStar_ok (and3 ns).1) (nostar_any (and3 ns).2)
    obtain ⟨vs, H2, I2, rv, q2⟩ := z
    exact ⟨I2.kIn, run_x T F1 hr hb hx hz I2 rv q2⟩
/-- an exception class as its maker knows it -/
def XRq (r : Rq) (c : Str) (xs : List Str) : Prop := r.mg c = some (.ref (ga r.K c)) ∧ Room 2 r.A ∧ xs.length ≤ 900 ∧ ∃ f fd, InC r.prog r.K (ga r.K c) f ∧ FnOk r.prog r.w r.K r.mg r.base (L2.CX r.prog r.w) 1 f fd ("self" :: xs) (spIn (ga r.K c) xs) ∧ Binds r.K fd ("self" :: xs) []
theorem ArgR.plain {sc : SC} {K : Fg} {G : Hp} {σ : St} {env : Env} : ∀ {sl : List (Option Nat)} {ds : List D} {vs : List V}, ArgR sc K G σ env sl ds vs → sl.all (·.isNone) = true → Reps K G ds vs
  | [], [], vs, h, _ => h
  | [], _ :: _, _, h, _ => h.elim
  | _ :: _, [], _, h, _ => h.elim
  | none :: sl, d :: ds, vs, h, n => by
    obtain ⟨v, r, rfl, h1, h2⟩ := h
    exact ⟨v, r, rfl, h1, ArgR.plain h2 n⟩
  | some _ :: sl, d :: ds, vs, h, n => by cases n
theorem RepF.app {K : Fg} {G : Hp} : ∀ {l m : List (Str × D)} {xs ys : List (Str × V)}, RepF K G l xs → RepF K G m ys → RepF K G (l ++ m) (xs ++ ys)
  | [], m, xs, ys, h, k => by cases h; exact k
  | (k', d) :: l, m, xs, ys, h, k => by
    obtain ⟨x, r, rfl, h1, h2⟩ := h
    exact ⟨x, r ++ ys, rfl, h1, RepF.app h2 k⟩
theorem RepF.zipR {K : Fg} {G : Hp} : ∀ {xs : List Str} {ds : List D} {vs : List V}, Reps K G ds vs → RepF K G (xs.zip ds).reverse (xs.zip vs).reverse
  | [], ds, vs, h => rfl
  | x :: xs, [], vs, h => by cases h; exact rfl
  | x :: xs, d :: ds, vs, h => by
    obtain ⟨v, r, rfl, h1, h2⟩ := h
    rw [List.zip_cons_cons, List.zip_cons_cons, List.reverse_cons, List.reverse_cons]
    exact RepF.app (RepF.zipR h2) ⟨v, [], rfl, h1, rfl⟩
theorem pass_no {X : Cx} : Passes (L2.CX X.prog X.w) X (fun _ _ _ => False) := fun _ σ H s e s' I c => pass_none (X := X) σ _ H s e s' I c
def chkX (c : Str) (xs : List Str) (r : CC) (sc : SC) (e : Expr) : Bool := match e with
  | .Call (.Name y _) es [] _ => decide (y = c) && (chkGl sc c && (!(c == ("__debug__" : Str)) && (r.sl.all (·.isNone) && (decide (r.sl.length = xs.length) && r.chk sc es))))
  | _ => false
def tX (sc : SC) (K : Fg) (c : Str) (xs : List Str) (ev : Env → AR) (W : WX) : St → Hp → XK → Prop := fun σ H Q => ∃ f L G env, Rel sc K f L G H σ env ∧
  (ev env).post (fun ds env' => ∀ H' G' cls d, Rel sc K f L G' H' σ env' → Same G G' → XRep K G' H' c (xs.zip ds).reverse cls d → Q cls d H') (XW sc K f L G σ W)
theorem x_to {sc : SC} {X : Cx} {e : Expr} {c : Str} {xs : List Str} {r : CC} {W : WX} (hc : chkX c xs r sc e = true) (k : XOk sc X) (q : XRq (rq X) c xs) (qr : r.req (rq X)) (em : EmptyOk r) (tk : Takes X W) : PMk X e (tX sc X.K c xs r.ev W) := by
  unfold chkX at hc
  split at hc
  · rename_i yy pp ees pps
    obtain ⟨h1, h⟩ := and3 hc
    obtain ⟨h2, h⟩ := and3 h
    obtain ⟨h3, h⟩ := and3 h
    obtain ⟨h4, h⟩ := and3 h
    obtain ⟨h5, h6⟩ := and3 h
    have ey := of_decide_eq_true h1
    subst ey
    obtain ⟨q1, q2, q3, f, fd, T, F1, hb⟩ := q
    have pm := pmk_x (CX := L2.CX X.prog X.w) (p := pp) (pos := pps) T F1 q2 hb pass_no q3 (chkGl_ok h2 k) q1 (by simpa using h3) (r.sound sc X _ W h6 k qr tk) (fun ee σ H Q t => em sc _ h6 ee X.K W σ H Q t) (r.star sc _ h6)
    intro pins s σ H Q I h
    refine pm pins s σ H Q I ?_
    obtain ⟨fx, L, G, env, R, h⟩ := h
    refine ⟨fx, L, G, env, R, AR.post_mono h (fun ds e1 _ h vs H1 G1 R1 s1 ar => ?_) fun _ _ _ h => h⟩
    have rr := ar.plain h4
    have lv : vs.length = xs.length := by
      have := ar.len
      rw [← of_decide_eq_true h5, this.1, this.2]
    refine ⟨lv, fun ex => ?_, fun ex dx hdx => ?_⟩
    · subst ex
      exact h H1 G1 _ _ R1 s1 ⟨rfl, .inl ⟨rfl, rfl⟩⟩
    · have R2 := R1.alloc (o := .xd (xs.zip vs).reverse) hdx
      have s2 : Same G1 (L2.upd G1 dx (.xd (xs.zip vs).reverse)) := same_upd (R1.gnone hdx)
      exact h _ _ _ _ R2 (s1.trans s2) ⟨rfl, .inr ⟨dx, _, rfl, upd_same, RepF.zipR (Reps.mono (Le.of_same s2) _ _ rr)⟩⟩
  · cases hc
/-- raise C(..) -/
def CS.raise_ (c : Str) (xs : List Str) (r : CC) (em : EmptyOk r) : CS where
  chk sc e := match e with | .Raise (some x) none _ => sc.calm && chkX c xs r sc x | _ => false
  req z := XRq z c xs ∧ r.req z
  ev env := (r.ev env).bindS fun ds e => .exc c (xs.zip ds).reverse e
  sound sc X e W hc k q tk _ := by
    split at hc
    · obtain ⟨h1, h2⟩ := and3 hc
      refine (ps_raise (by rw [k.calm]; exact h1) tk (x_to h2 k q.1 q.2 em tk)).imp fun D σ H h => ?_
      obtain ⟨fx, L, G, env, R, h⟩ := h
      refine ⟨fx, L, G, env, R, AR.post_mono (AR.post_bindS h) (fun ds e1 _ h H' G' cls d R' s' x => ?_) (XWs.at σ)⟩
      exact h σ H' G' cls d R' s' x
    · cases hc
theorem exo_held {P : Program} {w : World} {H : Hp} {h : Heap} {a : Addr} {cls : Value} {d : Option Addr} {oe : Obj} {vs : Array Value} (e : h.get? a = some oe) (z : Zc cls d oe) (hd : oe.data = .fields vs) : ObjOk P w H h a (EXO cls d a) :=
  ⟨⟨oe, vs, e, z, hd⟩, ⟨oe, e⟩, fun _ _ ⟨o, v, q, r⟩ k => ⟨o, v, k o q, r⟩⟩
/-- C(..) as a value -/
def CE.exv (c : Str) (xs : List Str) (r : CC) (em : EmptyOk r) : CE where
  chk sc e := chkX c xs r sc e
  req z := XRq z c xs ∧ r.req z
  bor := none
  pur := false
  ev env := (r.ev env).bind fun ds e => .ok (.exc c (xs.zip ds).reverse) e
  pok h := by cases h
  bok i h := by cases h
  sound sc X e W hc k q tk := by
    refine ⟨fun pins s σ H Q I h => ?_⟩
    obtain ⟨fx, L, G, env, R, h⟩ := h
    have pm := x_to hc k q.1 q.2 em tk pins s σ H (fun cls d H' => ∀ a, H' a = none → Q (.ref a) (L2.upd H' a (EXO cls d a))) I ⟨fx, L, G, env, R, AR.post_mono (AR.post_bind h) (fun ds e1 _ h H' G' cls d R' s' x a ha => by
      have R2 := R'.alloc (o := EXO cls d a) ha
      have s2 : Same G' (L2.upd G' a (EXO cls d a)) := same_upd (R'.gnone ha)
      obtain ⟨x1, x2⟩ := x
      refine h _ _ _ R2 (s'.trans s2) ⟨a, d, rfl, by rw [← x1]; exact upd_same, ?_⟩
      exact x2.imp id fun ⟨dd, ys, e1, e2, e3⟩ => ⟨dd, ys, e1, s2 _ _ e2, RepF.mono (Le.of_same s2) _ _ e3⟩) fun _ _ _ h => h⟩
    refine wpAny_mono pm (fun u s1 hu => ?_) fun _ _ x => x
    obtain ⟨a, oe, vs, sI, H', cls, d, rfl, J, kk, hne, ha, hz, hd, h1, na, os, ag, _, q⟩ := hu
    have J2 := J.laidN (t' := s1.toks) kk hne na (exo_held (H := L2.upd H' a (EXO cls d a)) ha hz hd)
    exact ⟨.ref a, _, ⟨J2.ok, os.trans J2.os, ag, J2.base, J2.loc, J2.cell, J2.free, J2.freeC, J2.pin, J2.hok, J2.len⟩, rfl, q a na⟩
end C

set_option maxRecDepth 100000
set_option maxHeartbeats 4000000
namespace C
open PySem L2
/-! ### try .. except .. -/
def wild (sc : SC) : SC := { sc with calm := false }
theorem Rel.wild {sc : SC} {K : Fg} {f : Fx} {L : List Addr} {G H : Hp} {σ : St} {env : Env} (R : Rel sc K f L G H σ env) : Rel (C.wild sc) K f L G H σ env := Rel.of_sc (sc := sc) (sc' := C.wild sc) rfl rfl R
theorem Rel.tame {sc : SC} {K : Fg} {f : Fx} {L : List Addr} {G H : Hp} {σ : St} {env : Env} (R : Rel (C.wild sc) K f L G H σ env) : Rel sc K f L G H σ env := Rel.of_sc (sc := C.wild sc) (sc' := sc) rfl rfl R
theorem XOk.suite {sc : SC} {X : Cx} (k : XOk sc X) (a : Addr) (pn : List (Addr × Obj)) : XOk (wild sc) (X.suite a pn) := ⟨k.N, k.nd, k.kd, rfl, k.fnl, k.un, k.fk, k.stk, k.cod⟩
theorem XOk.tr {sc : SC} {X : Cx} (k : XOk sc X) (pn : List (Addr × Obj)) (xe : Value → Shared → Prop) : XOk sc (X.tr pn xe) := ⟨k.N, k.nd, k.kd, k.calm, k.fnl, k.un, k.fk, k.stk, k.cod⟩
theorem Rel.clear {sc : SC} {K : Fg} {f : Fx} {L : List Addr} {G H : Hp} {σ : St} {env : Env} (R : Rel sc K f L G H σ env) {i : Nat} (hi : i ∉ sc.ow) : Rel sc K f L G H (σ.set i none) (env.set i none) := by
  have ev : ∀ j d, (env.set i none)[j]? = some (some d) → j ≠ i ∧ env[j]? = some (some d) := fun j d e => by
    by_cases hj : j = i
    · subst hj
      by_cases hl : j < env.length
      · rw [List.getElem?_set_self hl] at e; cases e
      · rw [List.getElem?_eq_none (by rw [List.length_set]; omega)] at e; cases e
    · rw [List.getElem?_set_ne (Ne.symm hj)] at e; exact ⟨hj, e⟩
  have sv : ∀ j, j ≠ i → (σ.set i none)[j]? = σ[j]? := fun j hj => List.getElem?_set_ne (Ne.symm hj)
  refine ⟨R.sub, R.frm, R.new, R.g0, R.dom, R.lk, by rw [List.length_set, List.length_set]; exact R.len, fun j d hj e => ?_, fun j d hj e => ?_, fun j k dj dk a hj hk ej ek sj sk => ?_, fun p hp => ?_, R.rpo, fun p hp => by rw [List.length_set]; exact R.lim p hp, R.gf, R.tab⟩
  · obtain ⟨n, e⟩ := ev j d e
    rw [sv j n]; exact R.frz j d hj e
  · obtain ⟨n, e⟩ := ev j d e
    rw [sv j n]; exact R.own j d hj e
  · obtain ⟨n1, e1⟩ := ev j dj ej
    obtain ⟨n2, e2⟩ := ev k dk ek
    rw [sv j n1] at sj
    rw [sv k n2] at sk
    exact R.dis j k dj dk a hj hk e1 e2 sj sk
  · rw [sv p (fun z => hi (z ▸ R.rpo p hp))]; exact R.par p hp
theorem FrRel.clear {sc : SC} {K : Fg} {f : Fx} {L : List Addr} {G H : Hp} {σ : St} {env : Env} {d : D} {v : V} (h : FrRel sc K f L G H σ env d v) {i : Nat} (hi : i ∉ sc.ow) : FrRel sc K f L G H (σ.set i none) (env.set i none) d v := by
  obtain ⟨a, o, h1, h2, h3, h4, h5, h6, h7, h8⟩ := h
  refine ⟨a, o, h1, h2, h3, h4, h5, h6, h7, fun j d' hj e s => ?_⟩
  have n : j ≠ i := fun z => hi (z ▸ hj)
  rw [List.getElem?_set_ne (Ne.symm n)] at e s
  exact h8 j d' hj e s
theorem FrRel.of_sc {sc sc' : SC} {K : Fg} {f : Fx} {L : List Addr} {G H : Hp} {σ : St} {env : Env} {d : D} {v : V} (h1 : sc'.ow = sc.ow) (h : FrRel sc K f L G H σ env d v) : FrRel sc' K f L G H σ env d v := by
  obtain ⟨a, o, k1, k2, k3, k4, k5, k6, k7, k8⟩ := h
  exact ⟨a, o, k1, k2, k3, k4, k5, k6, k7, by rw [h1]; exact k8⟩
/-- one clause: the class, the slot of the name, the suite -/
structure HC where
  x : Str
  nm : Option Nat
  b : CB
/-- what stands behind a suite: the name is gone; an exception out of it is not followed -/
def SR.clr (o : Option Nat) : SR → SR
  | .nx e => .nx (o.elim e fun i => e.set i none)
  | .rt d e => .rt d (o.elim e fun i => e.set i none)
  | .bk e => .bk (o.elim e fun i => e.set i none)
  | .ct e => .ct (o.elim e fun i => e.set i none)
  | .exc _ _ _ => .bad
  | .bad => .bad
def isSub (c x : Str) : Bool := decide (c = x) || decide (x = "CubeError")
def evH (cl : List Str) : List HC → Str → List (Str × D) → Env → SR
  | [], c, fs, e => .exc c fs e
  | h :: r, c, fs, e => if c ∈ cl then (if isSub c h.x = true then (h.b.ev (h.nm.elim e fun i => e.set i (some (.exc c fs)))).clr h.nm else evH cl r c fs e) else .bad
def SR.catch_ (r : SR) (k : Str → List (Str × D) → Env → SR) : SR := match r with | .exc c fs e => k c fs e | r => r
theorem SR.post_catch {r : SR} {k : Str → List (Str × D) → Env → SR} {w : Wn} (h : (r.catch_ k).post w) : r.post { w with ex := fun c fs e => (k c fs e).post w } := by cases r <;> exact h
/-- what is asked of the classes -/
def HRq (z : Rq) (cl : List Str) (x : Str) : Prop := z.mg x = some (.ref (ga z.K x)) ∧ ∀ c ∈ cl, PySem.W.exmOne z.K (.ref (ga z.K c)) (.ref (ga z.K x)) = some (isSub c x)
def hsReq (cl : List Str) : List HC → Rq → Prop
  | [], _ => True
  | h :: r, z => HRq z cl h.x ∧ (∀ a, h.b.req { z with A := z.A.mark (some (.ref a)) }) ∧ hsReq cl r z
def hsChk (sc : SC) : List HC → List ExceptHandler → Bool
  | [], [] => true
  | h :: r, .ExceptHandler (some (.Name y _)) n (b0 :: bs) _ :: es => decide (y = h.x) && (chkGl sc h.x && (!(h.x == ("__debug__" : Str)) && ((match h.nm, n with | none, none => true | some i, some m => decide (sc.N[i]? = some m) && (decide (sc.kd m = some .local) && !(sc.ow.contains i)) | _, _ => false) && (h.b.chk (wild sc) (b0 :: bs) && hsChk sc r es))))
  | _, _ => false
def wH (sc : SC) (K : Fg) (cl : List Str) (hs : List HC) (W : WX) (D : Ends) : WX := fun cls d σ H => ∃ f L G env c fs, Rel sc K f L G H σ env ∧ XRep K G H c fs cls d ∧ (evH cl hs c fs env).post (wnS sc K f L G W D)
section
variable {X : Cx} {pins : List (Addr × Obj)} {σ : St} {H : Hp} {s : Shared}
theorem suite_in {a : Addr} (I : Inv X pins σ H s) : Inv (X.suite a (X.pn ++ pins)) [] σ H s :=
  ⟨I.ok.suite _ _, I.os, I.bare, I.base, I.loc, I.cell, I.free, I.freeC, fun p hp => I.pin p (by rw [List.append_nil] at hp; exact hp), I.hok, I.len⟩
theorem suite_out {a : Addr} {pn : List (Addr × Obj)} (I : Inv (X.suite a (X.pn ++ pins)) pn σ H s) (ok : X.Ok) : Inv X pins σ H s :=
  ⟨ok, I.os, I.bare, I.base, I.loc, I.cell, I.free, I.freeC, fun p hp => I.pin p (List.mem_append_left _ hp), I.hok, I.len⟩
/-- a caught exception is held from now on -/
theorem landed_held {B : Heap} {sI s' : Shared} {a : Addr} {cls : Value} {d : Option Addr} {l : List PySem.Env} (J : Inv X pins σ H sI) (nb : ∀ b o, sI.heap.get? b = some o → b ∉ frs X.stack → B.get? b = some o) (fl : HandSPX.FlyingZ B l a (Zc cls d) s'.heap) (up : sI.heap.UpToSlots s'.heap)
    (os : s'.os = sI.os) (ag : PyProof.Rows.AllBare s'.gens) (na : H a = none) (nfr : a ∉ frs X.stack) : Inv X pins σ (L2.upd H a (EXO cls d a)) s' := by
  obtain ⟨oe, vs, he, hz, hd⟩ := fl.there
  have ga : sI.heap.get? a = none := by
    cases e : sI.heap.get? a with
    | none => rfl
    | some o =>
      have := nb a o e nfr
      rw [fl.2.1] at this
      cases this
  obtain ⟨G, on, off⟩ := restrict s'.heap fun b => decide (b ≠ a)
  have ge : ∀ {b : Addr}, b ≠ a → G.get? b = s'.heap.get? b := fun {b} z => on b (decide_eq_true z)
  have gn : G.get? a = none := off a (by simp)
  have st : B.StaysIn G := fun b o e => by
    rw [ge (fun z => by rw [z, fl.2.1] at e; cases e)]; exact fl.1 b o e
  have up' : sI.heap.UpToSlots G := fun b o e n => by
    obtain ⟨sl, z⟩ := up b o e n
    exact ⟨sl, (ge (fun z => by rw [z, ga] at e; cases e)).trans z⟩
  have JG : Inv X pins σ H { s' with heap := G } := J.landed (s' := { s' with heap := G }) nb st up' os ag
  exact JG.laidN (t' := s'.toks) (fun b u e => (ge (fun z => by rw [z, gn] at e; cases e)).symm.trans e) gn na (exo_held he hz hd)
end
theorem takes_wild {X : Cx} {a : Addr} {pn : List (Addr × Obj)} : Takes (X.suite a pn) (fun _ _ _ _ => False) := fun _ _ ⟨_, _, _, _, _, _, _, _, _, _, _, _, _, _, _, _, w⟩ => w.elim
/-- the clauses -/
theorem hs_run {sc : SC} {X : Cx} {cl : List Str} {W : WX} {pins : List (Addr × Obj)} {σ : St} {H : Hp} {sI s : Shared} {B : Heap} {a : Addr} {cls : Value} {d : Option Addr} {D : Ends} (k : XOk sc X) (hs : X.stack = X.env :: X.outer) (hf : X.env.frame = some X.env.locals) (tk : Takes X W) (J : Inv X pins σ H sI) (ok : X.Ok)
    (nb : ∀ b o, sI.heap.get? b = some o → b ∉ frs X.stack → B.get? b = some o) (fl : HandSPX.FlyingZ B (X.env :: X.outer) a (Zc cls d) s.heap) (up : sI.heap.UpToSlots s.heap) (os : s.os = sI.os) (ag : PyProof.Rows.AllBare s.gens) (na : H a = none) :
    ∀ (l : List HC) (es : List ExceptHandler), hsChk sc l es = true → hsReq cl l (rq X) → wH sc X.K cl l W D cls d σ H → wpAny (model X.prog X.w) X.A (handleBy (.ref a) X.env es) (SP X pins D) X.xe s
  | [], [], _, _, w => by
    obtain ⟨f, L, G, env, c, fs, R, xr, h⟩ := w
    have w : W cls d σ H := h σ H G cls d R (Same.refl _) xr
    refine wpAny_handleBy_nil ?_
    obtain ⟨k1, k2, k3, oe, vs, T, oT, ts', he, hz, hd, h1, hr⟩ := id fl
    unfold PySem.passOn
    refine wpAny_bind (wpAny_field he hd h1 ?_)
    have nn : ¬ ((Value.ref T == Value.none) = true) := by simp
    rw [if_neg nn]
    have fin : wpAny (model X.prog X.w) X.A (setFlight (.ref a) X.env.frame) (fun _ s4 => wpAny (model X.prog X.w) X.A (throw (.ref a) : Sem Flow) (SP X pins D) X.xe s4) X.xe s := by
      rw [hf]
      refine HandSPX.setFlight_upZ fl fun h4 hh4 up4 => wpAny_throw (tk _ _ ?_)
      exact ⟨a, B, sI, pins, σ, H, cls, d, rfl, J, nb, up.trans up4, .inr (.inr (by rw [hs]; exact hh4)), na, os, ag, w⟩
    first
      | exact wpAny_bind (wpAny_pure (wpAny_bind fin))
      | exact wpAny_bind fin
  | [], _ :: _, hc, _, _ => by cases hc
  | _ :: _, [], hc, _, _ => by cases hc
  | hd :: l, e :: es, hc, q, w => by
    unfold hsChk at hc
    split at hc
    · rename_i z; cases z
    · rename_i hh rr y np n b0 bs pos' es' z1 z2
      cases z1
      cases z2
      obtain ⟨g1, hc⟩ := and3 hc
      obtain ⟨g2, hc⟩ := and3 hc
      obtain ⟨g3, hc⟩ := and3 hc
      obtain ⟨g4, hc⟩ := and3 hc
      obtain ⟨g5, g6⟩ := and3 hc
      have ey := of_decide_eq_true g1
      subst ey
      obtain ⟨⟨q1, q2⟩, q3, q4⟩ := q
      obtain ⟨f, L, G, env, c, fs, R, xr, h⟩ := w
      have nfr : a ∉ frs X.stack := fun hm => by
        rw [hs] at hm
        obtain ⟨oe, vs, he, hz, hd⟩ := fl.there
        obtain ⟨_, o', e', hnf⟩ := fl.2.2.1.mem hm
        rw [he] at e'; cases e'
        exact hnf _ hd
      have J3 : Inv X pins σ H s := J.landed nb fl.1 up os ag
      obtain ⟨oe3, vs3, he3, hz3, hd3⟩ := fl.there
      have xc := xr.1
      unfold evH at h
      by_cases hcl : c ∈ cl
      · rw [if_pos hcl] at h
        have hb1 := q2 c hcl
        have hb1' : PySem.W.exmOne X.K cls (.ref (ga X.K hd.x)) = some (isSub c hd.x) := by rw [xc]; exact hb1
        refine wpAny_handleBy_cons (codeAny_handlers_test ?_) (by intro q; cases q)
        have LT : PySem.W.Looks (model X.prog X.w) s.heap (typeOf (.ref a)) cls := fun A Q E s k q => wpAny_typeOf_ref (k _ _ he3) (by rw [hz3.1]; exact q)
        have LM := PySem.W.exm_one (M := model X.prog X.w) (J3.kIn) LT hb1'
        refine ld_glob (X := X.suite a (X.pn ++ pins)) (suite_in J3) (show Gl X hd.x from chkGl_ok g2 k) q1 ?_ (by simpa using g3)
        refine LM.here ?_
        cases hb : isSub c hd.x with
        | false =>
          rw [hb, if_neg (by simp)] at h
          exact hs_run k hs hf tk J ok nb fl up os ag na l _ g6 q4 ⟨f, L, G, env, c, fs, R, xr, h⟩
        | true =>
          rw [hb, if_pos rfl] at h
          have sd := hd.b.sound (wild sc) (X.suite a (X.pn ++ pins)) (b0 :: bs) (fun _ _ _ _ => False) g5 (k.suite a _) (q3 a) takes_wild PassesOwn.never
          cases en : hd.nm with
          | none =>
            rw [en] at g4 h
            cases n with
            | some m => cases g4
            | none =>
              refine codeAny_handlers_suite ?_
              refine HandSPX.lands_againZ fl fun h4 fl4 up4 => ?_
              have J4 : Inv X pins σ H { s with heap := h4 } := J.landed (s' := { s with heap := h4 }) nb fl4.1 (up.trans up4) os ag
              refine wpAny_mono (sd.run [] _ σ H D (suite_in J4) ⟨f, L, G, env, R.wild, ?_⟩) (fun fl6 s6 hsp => ?_) (fun _ _ z => False.elim z)
              · cases er : hd.b.ev env with
                | bad => rw [show Option.elim none env _ = env from rfl, er] at h; exact h
                | exc _ _ _ => rw [show Option.elim none env _ = env from rfl, er] at h; exact h.elim
                | nx e2 => rw [show Option.elim none env _ = env from rfl, er] at h; exact fun σ' H' G' R' s' => h σ' H' G' R'.tame s'
                | bk e2 => rw [show Option.elim none env _ = env from rfl, er] at h; exact fun σ' H' G' R' s' => h σ' H' G' R'.tame s'
                | ct e2 => rw [show Option.elim none env _ = env from rfl, er] at h; exact fun σ' H' G' R' s' => h σ' H' G' R'.tame s'
                | rt d2 e2 =>
                  rw [show Option.elim none env _ = env from rfl, er] at h
                  refine fun v σ' H' G' R' s' rt => h v σ' H' G' R'.tame s' ?_
                  unfold RtRel at rt ⊢
                  by_cases hfr : sc.fr = true
                  · rw [if_pos hfr]; rw [if_pos (show (wild sc).fr = true from hfr)] at rt; exact FrRel.of_sc (sc := wild sc) (sc' := sc) rfl rt
                  · rw [if_neg hfr]; rw [if_neg (show ¬ (wild sc).fr = true from hfr)] at rt; exact rt
              · cases fl6 with
                | next => obtain ⟨σ6, H6, S6, q6⟩ := hsp; exact ⟨_, _, suite_out S6 ok, q6⟩
                | brk => obtain ⟨σ6, H6, S6, q6⟩ := hsp; exact ⟨_, _, suite_out S6 ok, q6⟩
                | cont => obtain ⟨σ6, H6, S6, q6⟩ := hsp; exact ⟨_, _, suite_out S6 ok, q6⟩
                | ret u => obtain ⟨v6, σ6, H6, S6, r6, q6⟩ := hsp; exact ⟨_, _, _, suite_out S6 ok, r6, q6⟩
          | some i =>
            rw [en] at g4 h
            cases n with
            | none => cases g4
            | some m =>
              obtain ⟨m1, m2⟩ := and3 g4
              obtain ⟨m2, m3⟩ := and3 m2
              have hi : X.N[i]? = some m := by rw [k.N]; exact of_decide_eq_true m1
              have hln : X.env.kindOf m = some .local := (k.kd m).trans (of_decide_eq_true m2)
              have no : i ∉ sc.ow := by simpa using m3
              refine codeAny_handlers_suite_as ?_
              refine HandSPX.lands_againZ fl fun h4 fl4 up4 => ?_
              have J4 := landed_held (s' := { s with heap := h4 }) J nb fl4 (up.trans up4) os ag na nfr
              have R1 := R.alloc (o := EXO cls d a) na
              have s1 : Same G (L2.upd G a (EXO cls d a)) := same_upd (R.gnone na)
              have rep : Rep X.K (L2.upd G a (EXO cls d a)) (.exc c fs) (.ref a) := ⟨a, d, rfl, by rw [← xc]; exact upd_same, xr.2.imp id fun ⟨dd, ys, e1, e2, e3⟩ => ⟨dd, ys, e1, s1 _ _ e2, RepF.mono (Le.of_same s1) _ _ e3⟩⟩
              have R2 := R1.set no rep
              refine store_ok (X := X.suite a (X.pn ++ pins)) (v := .ref a) (suite_in J4) k.nd hi (.inl hln) rfl (fun s5 S5 => ?_) (.inr hln)
              refine wpAny_mono (sd.run [] s5 _ _ { nx := fun σ' H' => D.nx (σ'.set i none) H', rt := D.rt, bk := fun σ' H' => D.bk (σ'.set i none) H', ct := fun σ' H' => D.ct (σ'.set i none) H' } S5 ⟨f, L, _, _, R2.wild, ?_⟩) (fun fl6 s6 hsp => ?_) (fun _ _ z => False.elim z)
              · have h' : ((hd.b.ev (env.set i (some (.exc c fs)))).clr (some i)).post (wnS sc X.K f L (L2.upd G a (EXO cls d a)) W D) := wnS_mono s1 h
                cases er : hd.b.ev (env.set i (some (.exc c fs))) with
                | bad => rw [er] at h'; exact h'
                | exc _ _ _ => rw [er] at h'; exact h'.elim
                | nx e2 => rw [er] at h'; exact fun σ' H' G' R' s' => h' _ H' G' (Rel.clear R'.tame no) s'
                | bk e2 => rw [er] at h'; exact fun σ' H' G' R' s' => h' _ H' G' (Rel.clear R'.tame no) s'
                | ct e2 => rw [er] at h'; exact fun σ' H' G' R' s' => h' _ H' G' (Rel.clear R'.tame no) s'
                | rt d2 e2 =>
                  rw [er] at h'
                  refine fun v σ' H' G' R' s' rt => h' v _ H' G' (Rel.clear R'.tame no) s' ?_
                  unfold RtRel at rt ⊢
                  by_cases hfr : sc.fr = true
                  · rw [if_pos hfr]; rw [if_pos (show (wild sc).fr = true from hfr)] at rt; exact FrRel.clear (FrRel.of_sc (sc := wild sc) (sc' := sc) rfl rt) no
                  · rw [if_neg hfr]; rw [if_neg (show ¬ (wild sc).fr = true from hfr)] at rt; exact rt
              · have end_ : ∀ {σ6 : St} {H6 : Hp} {Q : Shared → Prop}, Inv (X.suite a (X.pn ++ pins)) [] σ6 H6 s6 → (∀ s7, Inv X pins (σ6.set i none) H6 s7 → Q s7) → wpAny (model X.prog X.w) X.A (do bindName X.env m .none; unbindBehindTheSuite X.env m pos') (fun _ s7 => Q s7) X.xe s6 :=
                  fun {σ6 H6 Q} S6 hq => gone_ok (suite_out S6 ok) k.nd hi hln hq
                cases fl6 with
                | next => obtain ⟨σ6, H6, S6, q6⟩ := hsp; exact end_ S6 fun s7 J7 => ⟨_, _, J7, q6⟩
                | brk => obtain ⟨σ6, H6, S6, q6⟩ := hsp; exact end_ S6 fun s7 J7 => ⟨_, _, J7, q6⟩
                | cont => obtain ⟨σ6, H6, S6, q6⟩ := hsp; exact end_ S6 fun s7 J7 => ⟨_, _, J7, q6⟩
                | ret u => obtain ⟨v6, σ6, H6, S6, r6, q6⟩ := hsp; exact end_ S6 fun s7 J7 => ⟨_, _, _, J7, r6, q6⟩
      · rw [if_neg hcl] at h
        exact h.elim
    · cases hc
end C

set_option maxRecDepth 100000
set_option maxHeartbeats 4000000
namespace C
open PySem L2
/-- try: b / except ..: .. ; cl: the classes of exceptions that are followed -/
def CS.try_ (cl : List Str) (b : CB) (l : List HC) : CS where
  chk sc e := match e with | .Try body (h0 :: hs) [] [] _ => sc.fnl && (b.chk sc body && hsChk sc l (h0 :: hs)) | _ => false
  req z := b.req z ∧ hsReq cl l z
  ev env := (b.ev env).catch_ fun c fs e => evH cl l c fs e
  sound sc X e W hc k q tk _ := by
    split at hc
    · rename_i body h0 hds pos
      obtain ⟨g1, hc⟩ := and3 hc
      obtain ⟨g2, g3⟩ := and3 hc
      obtain ⟨hs, hf⟩ := k.stk g1
      refine ⟨fun pins s σ H D I h => ?_⟩
      have ok := I.ok
      have hfr : X.A.frames = some (X.env :: X.outer) := by rw [ok.frames, hs]
      refine wpAny_Try_except ?_
      have tr : Takes (X.tr (X.pn ++ pins) (fun e s₁ => wpAny (model X.prog X.w) X.A (noteFrame e X.env) (fun _ s₂ => wpAny (model X.prog X.w) X.A (setFlight e none) (fun _ s₃ => wpAny (model X.prog X.w) X.A (handleBy e X.env (h0 :: hds)) (SP X pins D) X.xe s₃) X.xe s₂) X.xe s₁)) (wH sc X.K cl l W D) := by
        intro u s' xx
        obtain ⟨a, B, sI, pins', σ', H', cls, d, rfl, J', nb, up, sky, na, os, ag, w⟩ := xx
        have sky' : Sky B (X.env :: X.outer) a (Zc cls d) X.env.locals s'.heap := by rw [← hs]; exact sky
        show wpAny (model X.prog X.w) X.A (noteFrame (.ref a) X.env) _ _ _
        exact Sky.land Zc.steady hfr hf sky' fun h3 fl3 up3 => hs_run k hs hf tk (J'.ofTry ok) ok nb (s := { s' with heap := h3 }) fl3 (up.trans up3) os ag na l _ g3 q.2 w
      have sd := b.sound sc (X.tr (X.pn ++ pins) _) body (wH sc X.K cl l W D) g2 (k.tr _ _) q.1 tr PassesOwn.looking
      refine wpAny_mono (sd.run [] s σ H D (I.toTry _) ?_) (fun f s1 hsp => ?_) (fun e s1 he => he)
      · obtain ⟨fx, L, G, env, R, h⟩ := h
        refine ⟨fx, L, G, env, R, SR.post_mono (SR.post_catch h) (fun _ _ z => z) (fun _ _ z => z) (fun _ z => z) (fun _ z => z) fun c fs e1 z => ?_⟩
        exact fun σ' H' G' cls d R' s' x => ⟨fx, L, G', e1, c, fs, R', x, wnS_mono s' z⟩
      · cases f with
        | next => obtain ⟨σ', H', J', q⟩ := hsp; exact wpAny_execs_nil ⟨σ', H', J'.ofTry ok, q⟩
        | brk => obtain ⟨σ', H', J', q⟩ := hsp; exact ⟨σ', H', J'.ofTry ok, q⟩
        | cont => obtain ⟨σ', H', J', q⟩ := hsp; exact ⟨σ', H', J'.ofTry ok, q⟩
        | ret u => obtain ⟨v, σ', H', J', r, q⟩ := hsp; exact ⟨v, σ', H', J'.ofTry ok, r, q⟩
    · cases hc
/-! ### e.f, e an exception -/
theorem VW.exc {K : Fg} {G H : Hp} {v : V} {c : Str} {fs : List (Str × D)} (h : VW K G H (.exc c fs) v) : ∃ a d, v = .ref a ∧ H a = some (EXO (.ref (ga K c)) d a) ∧ ((fs = [] ∧ d = none) ∨ ∃ dd xs, d = some dd ∧ H dd = some (.xd xs) ∧ RepF K G fs xs) := by
  rcases h.2 with ⟨a, d, e, s, q⟩ | ⟨a, o, e, ho, z⟩
  · exact ⟨a, d, e, h.1.ex _ _ (notD_ext _) s, q.imp id fun ⟨dd, xs, e1, e2, e3⟩ => ⟨dd, xs, e1, h.1.ex _ _ (notD_xd _) e2, e3⟩⟩
  · exact z.elim
theorem RepF.lookX {K : Fg} {G : Hp} {f : Str} : ∀ {l : List (Str × D)} {xs : List (Str × V)} {d : D}, RepF K G l xs → l.lookup f = some d → ∃ v, xs.lookup f = some v ∧ Rep K G d v
  | [], xs, d, h, e => by cases e
  | (k, d0) :: l, xs, d, h, e => by
    obtain ⟨x, r, rfl, h1, h2⟩ := h
    rw [List.lookup_cons] at e ⊢
    cases q : (f == k) with
    | true => rw [q] at e; cases e; exact ⟨x, rfl, h1⟩
    | false => rw [q] at e; exact RepF.lookX h2 e
def tXfd (K : Fg) (f : Str) (te : TE) : TE := fun σ H Q => te σ H fun x H1 => ∃ a C dd fs v, x = .ref a ∧ H1 a = some (EXO (.ref C) (some dd) a) ∧ H1 dd = some (.xd fs) ∧ fs.lookup f = some v ∧ XfC K C ∧ PySem.W.findIn K (.ref C) f = some none ∧ Q v H1
theorem pe_xfd {X : Cx} {e : Expr} {te : TE} {pos : Pos} {n : Str} (he : PE X e te) (hb : attributeBase e n X.env (eval e X.env) = eval e X.env) : PE X (.Attribute e n pos) (tXfd X.K n te) := by
  refine ⟨fun pins s σ H Q I h => ?_⟩
  refine attr_of hb (thn (he.run pins s σ H _ I h) fun u s1 hh => ?_)
  obtain ⟨x, H1, I1, rx, a, C, dd, fs, v, rfl, ea, ed, l, T, hno, q⟩ := hh
  cases rx
  obtain ⟨⟨oe, vs, ho, hz, hd⟩, _, _⟩ := I1.hok a _ ea
  obtain ⟨mA, hns, hr⟩ := (show ObjOk X.prog X.w H1 s1.heap dd (.xd fs) from I1.hok dd _ ed)
  obtain ⟨od, hod, hl⟩ := lookIn_ns hns
  obtain ⟨u, hu, ru⟩ := RelO.some_of (v := v) (o := mA n) (by rw [← l]; exact hr n)
  have J : PySem.W.InstAt s1.heap a oe C (some od) := ⟨ho, hz.1, by unfold PySem.W.notCls; rw [hd] <;> rfl, by rw [hz.2]; exact hod⟩
  exact HandSPX.exc_get I1.kIn J T.ga T.gg T.exC (PySem.W.findObj_own T.hdC hno rfl (by rw [hl, hu])) (handed_of ru) ⟨v, H1, I1.tok _, ru, q⟩
/-- cs: the classes that may come -/
def xfD (cs : List Str) (f : Str) (d : D) : Option D := match d with | .exc c fs => if c ∈ cs then fs.lookup f else none | _ => none
def CE.xf (cs : List Str) (f : Str) (o : CE) : CE where
  chk sc e := match e with | .Attribute x g _ => decide (g = f) && (notSup x && o.chk sc x) | _ => false
  req z := o.req z ∧ ∀ c ∈ cs, XfC z.K (ga z.K c) ∧ PySem.W.findIn z.K (.ref (ga z.K c)) f = some none
  bor := none
  pur := o.pur
  ev env := (o.ev env).bind fun d e => optE (xfD cs f d) e
  pok h env d env' e := by
    cases e1 : o.ev env with
    | bad => rw [e1] at e; cases e
    | exc _ _ _ => rw [e1] at e; cases e
    | ok x ex =>
      simp only [e1, ER.bind] at e
      cases e2 : xfD cs f x with
      | none => rw [e2] at e; cases e
      | some y => rw [e2] at e; cases e; exact o.pok h _ _ _ e1
  bok i h := by cases h
  sound sc X e W hc k q tk := by
    split at hc
    · obtain ⟨g1, hc⟩ := and3 hc
      obtain ⟨g2, g3⟩ := and3 hc
      rw [of_decide_eq_true g1]
      refine (pe_xfd (o.sound sc X _ W g3 k q.1 tk) (notSup_ok g2)).imp fun σ H Q h => ?_
      obtain ⟨fx, L, G, env, R, h⟩ := h
      refine ⟨fx, L, G, env, R, ER.post_mono (ER.post_bind h) (fun d e1 _ h v H1 G1 R1 s1 r1 => ?_) fun _ _ _ h => h⟩
      obtain ⟨d', ef, hz⟩ := optE_post h
      clear h
      unfold xfD at ef
      split at ef
      · rename_i c fs zz
        split at ef
        · rename_i hcs
          obtain ⟨a, dd, rfl, ha, z⟩ := (R1.vw r1).exc
          rcases z with ⟨rfl, _⟩ | ⟨dx, xs, rfl, hx, rf⟩
          · cases ef
          · obtain ⟨v', l1, l2⟩ := rf.lookX ef
            exact ⟨a, _, dx, xs, v', rfl, ha, hx, l1, (q.2 c hcs).1, (q.2 c hcs).2, hz v' H1 G1 R1 s1 l2⟩
        · cases ef
      · cases ef
    · cases hc
end C

set_option maxRecDepth 100000
set_option maxHeartbeats 4000000
namespace C
open PySem L2
/-! ### a lambda is made: what was tracked stays tracked -/
theorem lam_mk {X : Cx} {pins : List (Addr × Obj)} {σ : St} {H : Hp} {s : Shared} {c P : Addr} {params : Arguments} {body : Expr} {scope : Scope} {pos : Pos} {E : Value → Shared → Prop} {Q : Value → Shared → Prop} {nm : Str}
    (I : Inv X pins σ H s) (TB : LamX.TabB X.base X.mg c P) (hcode : X.env.code = .ref c) (hnm : X.env.qual ++ "<lambda>" = nm) (hm : (P, nm) ∈ lamT X.K) (hu : ∀ p ∈ lamT X.K, p.1 = P → p.2 = nm) (hT : LamX.Tabs (lamT X.K) H)
    (hdef : defaultsOf params X.env = ([], [])) (hfree : ∀ y ∈ scope.names, y.2 = .free → ∃ c, X.env.cells.lookup y.1 = some c)
    (h : ∀ (f c' : Addr) (pm ctv : Value) (H1 : Hp) (s' : Shared), Inv X pins σ H1 s' → Kp X.K H H1 → s'.heap.get? f = some (PySem.W.kla_obj "<lambda>" nm params body scope (cloFrom X.env.cells scope.names []) pm c' ctv) → H1 f = none → f ∉ frs X.stack → H1 c' = some (LamX.CodeO c' nm) → Q (.ref f) s') :
    wpAny (model X.prog X.w) X.A (eval (.Lambda params body scope pos) X.env) Q E s := by
  subst hnm
  have T0 := hT
  obtain ⟨tb, tb1, tb2, tb3⟩ := hT _ hm
  have atP : s.heap.get? P = some { cls := .none, data := .fields tb } := I.hok P _ tb1
  have bP : s.heap.BuiltinsAt X.mg P := TB.bm.keeps I.bk
  have far : ∀ g, s.heap.objs.size ≤ g → g ∉ frs X.stack := fun g hg z => (List.mem_cons.mp (I.stkSub _ z)).elim (fun e => absurd (Nat.lt_of_lt_of_le (e ▸ I.lt) hg) (Nat.lt_irrefl _)) (fun e => I.nofs hg e)
  refine PySem.W.kla_eval hdef ?_
  cases look : codeAmong pos tb.toList with
  | some cv =>
    obtain ⟨c', rfl, co⟩ := tb3 pos cv look
    refine PySem.W.kla_makeFunctionHit (mg := X.mg) (c := c) (P := P) (ps := tb) (closure_ok hfree) I.ok.glob (I.mod.glob.keeps I.bk) hcode (TB.code.keeps I.bk) atP tb2 look bP fun ctv h' tk keep grew => ?_
    have J := I.kept (t' := tk) (h' := h'.push (PySem.W.kla_obj "<lambda>" (X.env.qual ++ "<lambda>") params body scope (cloFrom X.env.cells scope.names []) ((X.mg "__name__").getD .none) c' ctv)) fun b o e => Heap.get?_push_of_some _ (keep b o e)
    exact h _ c' _ ctv H _ J ⟨fun _ _ e _ => e, T0, fun _ e => e⟩ (Heap.get?_push_size _ rfl) (I.hok.fresh grew) (far _ grew) co
  | none =>
    refine PySem.W.kla_makeFunction (mg := X.mg) (c := c) (P := P) (ps := tb) (closure_ok hfree) I.ok.glob (I.mod.glob.keeps I.bk) hcode (TB.code.keeps I.bk) atP tb2 look TB.gP bP fun c' ctv h' tk keep ge lt rec_ stored => ?_
    obtain ⟨c2, oc, vs, t, ec, hoc, hd, hv⟩ := rec_
    cases ec
    have grew : s.heap.objs.size ≤ h'.objs.size := Nat.le_trans ge (Nat.le_of_lt lt)
    have fresh : H c' = none := I.hok.fresh ge
    have J := LamX.inv_table (t' := tk) (more := #[rawInt pos.line, rawInt pos.col, .ref c']) (h' := h'.push (PySem.W.kla_obj "<lambda>" (X.env.qual ++ "<lambda>") params body scope (cloFrom X.env.cells scope.names []) ((X.mg "__name__").getD .none) c' ctv)) I tb1
      (fun b o hb e => Heap.get?_push_of_some _ (keep b o hb e)) (Heap.get?_push_of_some _ stored) ge ⟨oc, vs, t, Heap.get?_push_of_some _ hoc, hd, hv⟩
    have kp : ∀ b o, H b = some o → (∀ ps, o ≠ .tbl ps) → L2.upd (L2.upd H P (.tbl (tb ++ #[rawInt pos.line, rawInt pos.col, .ref c']))) c' (LamX.CodeO c' (X.env.qual ++ "<lambda>")) b = some o := fun b o e n => by
      have n1 : b ≠ c' := ne_of_none e fresh
      have n2 : b ≠ P := fun z => by rw [z, tb1] at e; exact n tb (Option.some.inj e).symm
      rw [upd_ne n1, upd_ne n2]; exact e
    have app : (tb ++ #[rawInt pos.line, rawInt pos.col, Value.ref c']).toList = tb.toList ++ [rawInt pos.line, rawInt pos.col, .ref c'] := by simp
    refine h h'.objs.size c' _ ctv _ _ J ⟨kp, fun p hp => ?_, fun b e => ?_⟩ (Heap.get?_push_size _ rfl) ?_ (far _ grew) upd_same
    · by_cases hb : p.1 = P
      · rw [hu p hp hb, hb]
        refine ⟨_, (upd_ne (ne_of_none tb1 fresh)).trans upd_same, by rw [app]; exact PySem.TriplesOk_snoc _ _ _ _ tb2, fun q cv hcv => ?_⟩
        rw [app] at hcv
        rcases LamX.among_app _ tb2 hcv with z | z
        · obtain ⟨c0, a1, a2⟩ := tb3 q cv z
          exact ⟨c0, a1, kp _ _ a2 LamX.codeO_ne⟩
        · exact ⟨c', z, upd_same⟩
      · obtain ⟨qs, a1, a2, a3⟩ := T0 p hp
        refine ⟨qs, (upd_ne (ne_of_none a1 fresh)).trans ((upd_ne hb).trans a1), a2, fun q cv hcv => ?_⟩
        obtain ⟨c0, b1, b2⟩ := a3 q cv hcv
        exact ⟨c0, b1, kp _ _ b2 LamX.codeO_ne⟩
    · by_cases h1 : b = c'
      · rw [h1, upd_same] at e; cases e
      · rw [upd_ne h1] at e
        by_cases h2 : b = P
        · rw [h2, upd_same] at e; cases e
        · rw [upd_ne h2] at e; exact e
    · rw [upd_ne (Nat.ne_of_gt lt), upd_ne (Nat.ne_of_gt (Nat.lt_of_lt_of_le (Heap.lt_size atP) grew))]
      exact I.hok.fresh grew
/-- a() in the def that got the lambda f; what is raised is wished for at that def's slots -/
theorem act_pe {X : Cx} {pins : List (Addr × Obj)} {σ : St} {H : Hp} {s : Shared} {T : CXT} {Eg : XK} {Ng : List Str} {qg : Str} {sg : Scope} {g f c' : Addr} {cdg pm ctv : Value} {params : Arguments} {body : Expr} {scope : Scope} {k i : Nat} {a nm : Str} {pn : List (Addr × Obj)} {xe : Value → Shared → Prop} {W : WX} {tb : XK → TE} {p1 p2 : Pos}
    (I : Inv X pins σ H s) (L : LamX.LamS X.env.scope scope) (hnm : X.env.qual ++ "<lambda>" = nm) (hf : s.heap.get? f = some (PySem.W.kla_obj "<lambda>" nm params body scope (cloFrom X.env.cells scope.names []) pm c' ctv)) (hfn : H f = none) (hfr : f ∉ frs X.stack)
    (hbind : bindArgs (PySem.W.kla_fn "<lambda>" nm params body scope (cloFrom X.env.cells scope.names []) pm (.ref c') ctv) ⟨[], []⟩ = pure [])
    (tk : Takes ((cxOf T X.prog X.w X.K X.mg X.base Ng qg sg g cdg X.A X.stack s H Eg).tr pn xe) W) (hr : Room (k + 1) (X.A.deeper (PyProof.Rows.envOfC qg sg s.heap.objs.size g cdg)))
    (hbody : ∀ (E : XK) (A : Around) (outer : List PySem.Env) (s : Shared) (H : Hp), Room k (A.deeper (LamX.lamEnv X scope s.heap.objs.size f c')) → PE (LamX.lamCx X A outer s H E scope f c') body (tb E))
    (hN : Ng[i]? = some a) (hv : Vis sg a) (hd : (a == ("__debug__" : Str)) = false) (hcd : (a == ("__classdict__" : Str)) = false) :
    PE ((cxOf T X.prog X.w X.K X.mg X.base Ng qg sg g cdg X.A X.stack s H Eg).tr pn xe) (.Call (.Name a p1) [] [] p2) (fun σZ HZ Q => σZ[i]? = some (some (.ref f)) ∧ HZ c' = some (LamX.CodeO c' nm) ∧ tb (fun cls d H' => W cls d σZ H') σ HZ Q) := by
  subst hnm
  refine ⟨fun pZ sZ σZ HZ Q IZ ⟨hs, hc, ht⟩ => ?_⟩
  refine wpAny_Call_Name_kw (thn ((pe_var (pos := p1) (i := i) hN hv hd hcd).run pZ sZ σZ HZ (fun v H1 => v = .ref f ∧ H1 = HZ) IZ ⟨.ref f, hs, rfl, rfl⟩) fun u s1 ⟨v, H1, I1, r1, ev, eH⟩ => ?_)
  subst ev
  subst eH
  cases r1
  have of1 := I1.base.keep f _ hf hfn hfr (fun z => nomatch (show f ∈ ([] : List Addr) from z))
  refine PySem.W.callWith_F0 ⟨_, _, _, _, of1⟩ ?_
  have un : Un (frs X.stack) [] H H1 s.heap s1.heap := I1.base
  obtain ⟨⟨oc, vs, t, hoc, hdc, hvc⟩, _, _⟩ := I1.hok c' _ hc
  have rc : codeAny (model X.prog X.w) (X.A.deeper (PyProof.Rows.envOfC qg sg s.heap.objs.size g cdg)) (.call (.ref f) ⟨[], []⟩) (CR (L2.CX X.prog X.w) (PyProof.Rows.envOfC qg sg s.heap.objs.size g cdg :: X.stack) X.prog X.w H1 s1 Q (fun cls d H' => W cls d σZ H')) s1 := by
    refine PySem.W.kla_callFunE hr.depth of1 rfl L.co L.gen rfl ⟨c', oc, vs, t, rfl, hoc, hdc, hvc⟩ ?_
    rw [hbind]
    refine wpAny_pure (wpAny_newFunctionEnv (fun y hy => (L.own y hy).2) (fun y hy => absurd hy (by simp)) (fun h₁ hns hsb => ⟨I1.nolimit.fresh _ hsb, ?_⟩) L.kind)
    show codeAny _ _ (.expr body (LamX.lamEnv X scope s1.heap.objs.size f c')) _ _
    have kp : ∀ b o, s1.heap.get? b = some o → h₁.get? b = some o := fun b o e => hsb.extBut b o (Nat.ne_of_lt (Heap.lt_size e)) (Heap.get?_push_of_some _ e)
    have J := LamX.lam_start2 (E := fun cls d H' => W cls d σZ H') (f := f) (c' := c') (tk := s1.toks + ([] : List (Str × Value)).length) I L I1.env0 hr.hd un hns kp
    refine PySem.W.kla_codeExpr (wpAny_mono ((hbody _ _ _ s1 H1 (hr.deeper _)).run [] _ _ H1 Q J ht) (fun v s' hq => ?_) fun e s' hq => hq)
    obtain ⟨w', H', J', rv, q⟩ := hq
    exact ⟨w', H', J'.os, J'.bare, J'.base, J'.hok, rv, q⟩
  refine wpAny_call (codeAny_mono rc fun r s' hq => ?_)
  match r, hq with
  | .error e, hq => exact passAt tk σZ pZ H1 s1 e s' I1 hq
  | .ok (.ret u), hq => exact I1.after hq
  | .ok .next, hq => exact False.elim hq
  | .ok .brk, hq => exact False.elim hq
  | .ok .cont, hq => exact False.elim hq
end C

set_option maxRecDepth 100000
set_option maxHeartbeats 4000000
namespace C
open PySem L2
theorem try_core {sc : SC} {X : Cx} {W : WX} {cl : List Str} {l : List HC} {body : List Stmt} {h0 : ExceptHandler} {hds : List ExceptHandler} {pos : Pos} {tb : WX → TS} (k : XOk sc X) (g1 : sc.fnl = true) (tk : Takes X W) (g3 : hsChk sc l (h0 :: hds) = true) (q2 : hsReq cl l (rq X))
    (hb : ∀ (W' : WX) (pn : List (Addr × Obj)) (xe : Value → Shared → Prop), Takes (X.tr pn xe) W' → PassesOwn (model X.prog X.w) X.A X.env xe → PSs (X.tr pn xe) body (tb W')) :
    PS X (.Try body (h0 :: hds) [] [] pos) (fun D σ H => tb (wH sc X.K cl l W D) D σ H) := by
  obtain ⟨hs, hf⟩ := k.stk g1
  refine ⟨fun pins s σ H D I h => ?_⟩
  have ok := I.ok
  have hfr : X.A.frames = some (X.env :: X.outer) := by rw [ok.frames, hs]
  refine wpAny_Try_except ?_
  have tr : Takes (X.tr (X.pn ++ pins) (fun e s₁ => wpAny (model X.prog X.w) X.A (noteFrame e X.env) (fun _ s₂ => wpAny (model X.prog X.w) X.A (setFlight e none) (fun _ s₃ => wpAny (model X.prog X.w) X.A (handleBy e X.env (h0 :: hds)) (SP X pins D) X.xe s₃) X.xe s₂) X.xe s₁)) (wH sc X.K cl l W D) := by
    intro u s' xx
    obtain ⟨a, B, sI, pins', σ', H', cls, d, rfl, J', nb, up, sky, na, os, ag, w⟩ := xx
    have sky' : Sky B (X.env :: X.outer) a (Zc cls d) X.env.locals s'.heap := by rw [← hs]; exact sky
    show wpAny (model X.prog X.w) X.A (noteFrame (.ref a) X.env) _ _ _
    exact Sky.land Zc.steady hfr hf sky' fun h3 fl3 up3 => hs_run k hs hf tk (J'.ofTry ok) ok nb (s := { s' with heap := h3 }) fl3 (up.trans up3) os ag na l _ g3 q2 w
  refine wpAny_mono ((hb _ _ _ tr PassesOwn.looking).run [] s σ H D (I.toTry _) h) (fun f s1 hsp => ?_) (fun e s1 he => he)
  cases f with
  | next => obtain ⟨σ', H', J', q⟩ := hsp; exact wpAny_execs_nil ⟨σ', H', J'.ofTry ok, q⟩
  | brk => obtain ⟨σ', H', J', q⟩ := hsp; exact ⟨σ', H', J'.ofTry ok, q⟩
  | cont => obtain ⟨σ', H', J', q⟩ := hsp; exact ⟨σ', H', J'.ofTry ok, q⟩
  | ret u => obtain ⟨v, σ', H', J', r, q⟩ := hsp; exact ⟨v, σ', H', J'.ofTry ok, r, q⟩
/-! ### a callee without arguments, over the data -/
section
variable {sc scg : SC} {K : Fg} {f : Fx} {L : List Addr} {G H : Hp} {σ : St} {env : Env}
theorem none_at {n i : Nat} {d : D} (e : (List.replicate n (none : Option D))[i]? = some (some d)) : False := by
  have := List.mem_of_getElem? e
  rw [List.mem_replicate] at this
  cases this.2
theorem rel0 (R : Rel sc K f L G H σ env) (how : scg.ow = []) (hrp : scg.rp = []) (σg : St) : Rel scg K ⟨H, less H [] [], seen G H, σg⟩ [] (seen G H) H σg (List.replicate σg.length none) := by
  have sn : ∀ a o, seen G H a = some o → H a = some o := fun a o e => by
    unfold seen at e
    cases eg : G a with
    | none => rw [eg] at e; cases e
    | some w => rw [eg] at e; exact e
  refine ⟨fun a o e => .inl ⟨(fun z => nomatch z), sn a o e⟩, fun a o e => .inl ⟨(fun z => nomatch z), less_some e⟩, fun a o e => .inl e, Same.refl _, fun a e => e, (fun a z => nomatch z), by simp, fun i d _ e => (none_at e).elim, fun i d _ e => (none_at e).elim, fun i j di dj a _ _ e => (none_at e).elim, fun p _ => rfl, ?_, ?_, fun a o e1 e2 _ => ?_, ⟨R.tab.tabs, R.le.ntb R.tab.g, fun a ps e => ?_⟩⟩
  · rw [hrp]; exact fun p hp => nomatch hp
  · rw [how]; exact fun p hp => nomatch hp
  · have e3 : H a = none := e2
    rw [less_some e1] at e3; cases e3
  · have e : less H [] [] a = some (.tbl ps) := e
    have e4 := less_some e
    unfold less at e
    rw [if_pos (.inr ⟨ps, e4⟩)] at e
    cases e
theorem out0 {Gs G3 H3 : Hp} {σg σ' : St} {e' : Env} (R : Rel scg K ⟨H, less H [] [], Gs, σg⟩ [] G3 H3 σ' e') (s : Same Gs G3) : OutOk K [] Gs H [] G3 H3 [] := by
  refine ⟨s, fun a o e => ?_, R.new, fun a o e nr nt => ?_, fun k p a hk => by simp at hk, R.tab.tabs, R.tab.g, R.dom⟩
  · rcases R.sub a o e with ⟨_, z⟩ | ⟨z, _⟩
    · exact z
    · cases z
  · have : less H [] [] a = some o := by
      unfold less
      rw [if_neg (fun z => z.elim nr fun ⟨ps, z⟩ => nt ps (Option.some.inj (e.symm.trans z)))]
      exact e
    rcases R.frm a o this with ⟨_, z⟩ | ⟨z, _⟩
    · exact z
    · cases z
theorem back0 {G' H' : Hp} (R : Rel sc K f L G H σ env) (O : OutOk K [] (seen G H) H [] G' H' []) : Rel sc K f L (merge G G') H' σ env ∧ Same G (merge G G') ∧ Le G' (merge G G') := by
  have sm : Same G (merge G G') := fun a o e => by unfold merge; rw [e]
  have ml := merge_le R O.same
  refine ⟨R.chg [] (fun a o e _ nt => O.frm a o e (fun ⟨p, hp, _⟩ => nomatch hp) nt) O.tabs O.dom sm (fun a o e => ?_) (fun a h => by cases h) (fun a ps e => ?_) rfl fun i d e => .inl ⟨e, fun _ _ _ h => by cases h⟩, sm, ml⟩
  · cases eg : G a with
    | some w => unfold merge at e; rw [eg] at e; exact .inl e
    | none =>
      unfold merge at e
      rw [eg] at e
      rcases O.new a o e with z | z | z
      · unfold seen at z; rw [eg] at z; cases z
      · exact .inr (.inl ⟨z, O.sub a o e⟩)
      · exact .inr (.inr ⟨z, O.sub a o e⟩)
  · unfold merge at e
    cases eg : G a with
    | none => rw [eg] at e; exact O.ntb a ps e
    | some w => rw [eg] at e; exact R.tab.g a ps (eg.trans e)
end
/-! ### g(lambda: ..): g tries what it got -/
inductive GF where
  | ex (rest : CB) | rt
structure GB where
  x : Str
  a : Str
  N : List Str
  form : GF
  cl : List Str
  hs : List HC
def GF.chk (f : GF) (a : Str) (sc : SC) (b : List Stmt) : Bool := match f, b with
  | .ex r, .Expr (.Call (.Name y _) [] [] _) _ :: bs => decide (y = a) && r.chk sc bs
  | .rt, [.Return (some (.Call (.Name y _) [] [] _)) _] => decide (y = a)
  | _, _ => false
def GF.req (f : GF) (z : Rq) : Prop := match f with | .ex r => r.req z | .rt => True
def gsc (g : GB) (scope : Scope) : SC := scOf g.N scope [] [] false
def GB.chk (g : GB) (scope : Scope) (b : List Stmt) : Bool := match b with
  | [.Try body (h0 :: hs) [] [] _] => g.form.chk g.a (gsc g scope) body && hsChk (gsc g scope) g.hs (h0 :: hs)
  | _ => false
/-- g as its caller knows it -/
def GRq (z : Rq) (k : Nat) (g : GB) : Prop := ∃ f fd params body scope, FunD z.K g.x g.x params body scope [] [] f fd ∧ z.mg g.x = some (.ref f) ∧ FnScope g.N [g.a] scope ∧ g.N[0]? = some g.a ∧ Vis scope g.a ∧ Binds z.K fd [g.a] [] ∧ g.chk scope body = true ∧
  ∀ A, Room (k + 1) A → g.form.req { z with A := A } ∧ hsReq g.cl g.hs { z with A := A }
def nenv (g : GB) : Env := List.replicate g.N.length none
def SR.told (r : SR) (e1 : Env) : ER := match r with | .rt d _ => .ok d e1 | _ => .bad
def evG (g : GB) (r : ER) : ER := match r with
  | .ok d e1 => (match g.form with | .rt => .ok d e1 | .ex rest => (rest.ev (nenv g)).told e1)
  | .exc c fs e1 => (evH g.cl g.hs c fs (nenv g)).told e1
  | .bad => .bad
/-- the context of a lambda's body -/
def lsc (sc : SC) (scope : Scope) : SC := { sc with kd := fun x => scope.names.lookup x, fnl := false, calm := true, df := none }
def chkLS (sc : SC) (scope : Scope) : Bool := (match scope.kind with | .function => true | _ => false) && (!scope.isCoroutine && (!scope.isGenerator && scope.names.all fun y => match y.2 with
  | .local => false | .cell => false | .free => (match sc.kd y.1 with | some .cell => true | some .free => true | _ => false) | _ => true))
theorem chkLS_ok {sc : SC} {X : Cx} {scope : Scope} (h : chkLS sc scope = true) (k : XOk sc X) : LamX.LamS X.env.scope scope := by
  obtain ⟨h1, h⟩ := and3 h
  obtain ⟨h2, h⟩ := and3 h
  obtain ⟨h3, h4⟩ := and3 h
  refine ⟨?_, by simpa using h2, by simpa using h3, fun y hy => ?_, fun y hy e => ?_⟩
  · cases e : scope.kind <;> rw [e] at h1 <;> first | rfl | cases h1
  · have := List.all_eq_true.mp h4 y hy
    cases e : y.2 <;> simp_all
  · have := List.all_eq_true.mp h4 y hy
    rw [e] at this
    rw [k.kd y.1]
    cases e2 : sc.kd y.1 with
    | none => simp only [e2] at this; cases this
    | some kk =>
      simp only [e2] at this
      cases kk <;> first | exact .inl rfl | exact .inr rfl | cases this
def noArgs (p : Arguments) : Bool := match p with | ⟨[], [], none, [], [], none, []⟩ => true | _ => false
def chkLam (g : GB) (lam : CE) (sc : SC) (e : Expr) : Bool := match e with
  | .Call (.Name y _) [.Lambda ps b scope _] [] _ => decide (y = g.x) && (chkGl sc g.x && (!(g.x == ("__debug__" : Str)) && (!(g.a == ("__debug__" : Str)) && (!(g.a == ("__classdict__" : Str)) && (lam.bor.isNone && (noArgs ps && (chkLS sc scope && (lam.chk (lsc sc scope) b && (match sc.df with | some d => decide ((d, (d ++ ".<locals>." ++ "<lambda>" : Str)) ∈ lamDefs) | none => false)))))))))
  | _ => false
end C

set_option maxRecDepth 100000
set_option maxHeartbeats 4000000
namespace C
open PySem L2
/-- what is asked of the tables of code objects -/
def TbRq (z : Rq) : Prop := (∀ p ∈ lamDefs, LamX.TabB z.base z.mg (He.codeOf z.K (p.1, none)) (He.tabOf z.K (He.codeOf z.K (p.1, none)))) ∧ ∀ p ∈ lamT z.K, ∀ q ∈ lamT z.K, p.1 = q.1 → p.2 = q.2
theorem told_post {r : SR} {e1 : Env} {P : D → Env → Prop} {E : EX} (h : (r.told e1).post P E) : ∃ d e', r = .rt d e' ∧ P d e1 := by
  cases r with
  | rt d e' => exact ⟨d, e', rfl, h⟩
  | _ => exact h.elim
theorem lam_xok {sc : SC} {X : Cx} {A : Around} {outer : List PySem.Env} {s : Shared} {H : Hp} {E : XK} {scope : Scope} {f c' : Addr} {k : Nat} (xk : XOk sc X) (hk : scope.kind = .function) (hr : Room k (A.deeper (LamX.lamEnv X scope s.heap.objs.size f c'))) : XOk (lsc sc scope) (LamX.lamCx X A outer s H E scope f c') :=
  ⟨xk.N, xk.nd, fun _ => rfl, rfl, (fun z => by cases z), (by have := hr.un; show (A.deeper _).units + 100 < cLine; omega), hk, (fun z => by cases z), (fun _ z => by cases z)⟩
theorem lam_pe {sc : SC} {X : Cx} {e : Expr} {g : GB} {lam : CE} {k : Nat} {W : WX} (hc : chkLam g lam sc e = true) (xk : XOk sc X) (hr : Room (k + 2) X.A) (q : GRq (rq X) k g) (ql : ∀ A, Room k A → lam.req { rq X with A := A }) (qt : TbRq (rq X)) :
    PE X e (tE sc X.K none (fun env => evG g (lam.ev env)) W) := by
  unfold chkLam at hc
  split at hc
  · rename_i y p ps body scope lpos pos
    obtain ⟨g1, hc⟩ := and3 hc
    obtain ⟨g2, hc⟩ := and3 hc
    obtain ⟨g3, hc⟩ := and3 hc
    obtain ⟨g4, hc⟩ := and3 hc
    obtain ⟨g5, hc⟩ := and3 hc
    obtain ⟨g6, hc⟩ := and3 hc
    obtain ⟨g7, hc⟩ := and3 hc
    obtain ⟨g8, hc⟩ := and3 hc
    obtain ⟨g9, g10⟩ := and3 hc
    have ey := of_decide_eq_true g1
    subst ey
    have hpar : ps = ⟨[], [], none, [], [], none, []⟩ := by
      unfold noArgs at g7
      split at g7
      · rfl
      · cases g7
    subst hpar
    have L := chkLS_ok g8 xk
    cases edf : sc.df with
    | none => rw [edf] at g10; cases g10
    | some dn =>
      rw [edf] at g10
      have mem := of_decide_eq_true g10
      obtain ⟨hcode, hqual⟩ := xk.cod dn edf
      obtain ⟨gf, fd, params, gbody, gscope, F, hm, S, hN0, hv, hb, gchk, greq⟩ := q
      obtain ⟨oc, od, dV, kV, doc, pm, an, cdv, ct, osl, rfl, lk, hcd, _, _⟩ := F.ex
      have hmT : (He.tabOf X.K (He.codeOf X.K (dn, none)), (dn ++ ".<locals>." ++ "<lambda>" : Str)) ∈ lamT X.K := List.mem_map.mpr ⟨_, mem, rfl⟩
      have TB := qt.1 _ mem
      unfold GB.chk at gchk
      split at gchk
      · rename_i tbody h0 hds tpos
        obtain ⟨c1, c2⟩ := and3 gchk
        refine ⟨fun pins s σ H Q I h => ?_⟩
        obtain ⟨fx, L0, G, env, R, h⟩ := h
        dsimp only at h
        refine wpAny_Call_Name_kw (ld_glob I (chkGl_ok g2 xk) hm ?_ (by simpa using g3))
        refine PySem.W.callWith_K (h₀ := X.base) I.ok.mod.kin F.kp ?_ (by rfl) (by rfl)
        show wpAny _ _ (spliced ((false, eval (.Lambda ⟨[], [], none, [], [], none, []⟩ body scope lpos) X.env) :: backTo pos (starEach [] X.env))) _ _ s
        refine Calls.spliced_cons (lam_mk I TB hcode (by rw [hqual]) hmT (fun p hp e => qt.2 p hp _ hmT e) R.tab.tabs rfl (L.has I.ok) fun f c' pm' ctv H1 s' I1 kp hf hfn hfr hco => ?_)
        refine Calls.spliced_nil ⟨I1.kIn, ?_⟩
        have RL := (R.growT kp)
        have rc : codeAny (model X.prog X.w) X.A (.call (.ref gf) ⟨[.ref f], []⟩) (CR (L2.CX X.prog X.w) X.stack X.prog X.w H1 s' Q (fun _ _ _ => False)) s' := by
          refine LamX.run_ofS (N := g.N) (ps := [g.a]) (us := [.ref f]) (vs := [.ref f]) (k := k + 1) lk hcd S hr I1.env0 (hb s' [.ref f] I1.kIn rfl) (.cons rfl .nil) rfl fun hr' => ?_
          have xg : XOk (gsc g gscope) (cxOf (L2.CX X.prog X.w) X.prog X.w X.K X.mg X.base g.N g.x gscope gf cdv X.A X.stack s' H1 (fun _ _ _ => False)) :=
            ⟨rfl, S.nd, fun _ => rfl, rfl, fun _ _ => rfl, (by have := hr'.un; show (X.A.deeper _).units + 100 < cLine; omega), S.kind, (fun _ => ⟨rfl, rfl⟩), (fun _ z => by cases z)⟩
          obtain ⟨rq1, rq2⟩ := greq _ hr'
          have act : ∀ (W' : WX) (pn : List (Addr × Obj)) (xe : Value → Shared → Prop) (p1 p2 : Pos), Takes ((cxOf (L2.CX X.prog X.w) X.prog X.w X.K X.mg X.base g.N g.x gscope gf cdv X.A X.stack s' H1 (fun _ _ _ => False)).tr pn xe) W' →
              PE ((cxOf (L2.CX X.prog X.w) X.prog X.w X.K X.mg X.base g.N g.x gscope gf cdv X.A X.stack s' H1 (fun _ _ _ => False)).tr pn xe) (.Call (.Name g.a p1) [] [] p2) (fun σZ HZ Q => σZ[0]? = some (some (V.ref f)) ∧ HZ c' = some (LamX.CodeO c' (dn ++ ".<locals>." ++ "<lambda>")) ∧ tE (lsc sc scope) X.K lam.bor lam.ev (fun cls d _ H' => W' cls d σZ H') σ HZ Q) :=
            fun W' pn xe p1 p2 tk' => act_pe (i := 0) (tb := fun E => tE (lsc sc scope) X.K lam.bor lam.ev (fun cls d _ H' => E cls d H')) I1 L (by rw [hqual]) hf hfn hfr rfl tk' hr' (fun E A outer s2 H2 hr2 => lam.sound (lsc sc scope) _ body _ g9 (lam_xok xk L.kind hr2) (ql _ hr2) (takes_of rfl rfl rfl rfl)) hN0 hv (by simpa using g4) (by simpa using g5)
          have σl : (L2.start g.N [V.ref f]).length = g.N.length := by
            have : [g.a].length ≤ g.N.length := by
              have := congrArg List.length S.pre
              rw [List.length_take] at this
              omega
            unfold L2.start
            rw [List.length_append, List.length_map, List.length_replicate]
            simp at this ⊢
            omega
          have hb0 : lam.bor = none := by simpa using g6
          have s0 : (L2.start g.N [V.ref f])[0]? = some (some (V.ref f)) := by unfold L2.start; rfl
          have fin : ∀ {H2 G2 : Hp} {e1 : Env} {d' : D} {v' : V} {H3 G3 : Hp} {σ' : St} {e' : Env} {P : V → Hp → Prop}, Rel (lsc sc scope) X.K fx L0 G2 H2 σ e1 → Same G G2 → (∀ v H' G', Rel sc X.K fx L0 G' H' σ e1 → Same G G' → VRel sc X.K G' σ e1 none d' v → P v H') →
              Rel (gsc g gscope) X.K ⟨H2, less H2 [] [], seen G2 H2, L2.start g.N [V.ref f]⟩ [] G3 H3 σ' e' → Same (seen G2 H2) G3 → RtRel (gsc g gscope) X.K ⟨H2, less H2 [] [], seen G2 H2, L2.start g.N [V.ref f]⟩ [] G3 H3 σ' e' d' v' → P v' H3 := by
            intro H2 G2 e1 d' v' H3 G3 σ' e' P R2 s2 h R3 s3 rt
            obtain ⟨Rb, sb, ml⟩ := back0 (Rel.of_sc (sc := lsc sc scope) (sc' := sc) rfl rfl R2) (out0 R3 s3)
            exact h v' H3 _ Rb (s2.trans sb) (Rep.mono ml _ _ rt)
          have exc : ∀ {c : Str} {fs : List (Str × D)} {e1 : Env} {H2 G2 : Hp} {cls : Value} {dd : Option Addr}, ((evH g.cl g.hs c fs (nenv g)).told e1).post (fun d env' => ∀ v H' G', Rel sc X.K fx L0 G' H' σ env' → Same G G' → VRel sc X.K G' σ env' none d v → Q v H') (XW sc X.K fx L0 G σ W) →
              Rel (lsc sc scope) X.K fx L0 G2 H2 σ e1 → Same G G2 → XRep X.K G2 H2 c fs cls dd → wH (gsc g gscope) X.K g.cl g.hs (fun _ _ _ _ => False) { nx := fun _ H' => Q .non H', rt := Q } cls dd (L2.start g.N [V.ref f]) H2 := by
            intro c fs e1 H2 G2 cls dd h R2 s2 xr
            obtain ⟨d', e', er, h⟩ := told_post h
            have le := R2.le
            have sl := seen_le R2
            refine ⟨_, [], seen G2 H2, _, c, fs, rel0 R2 rfl rfl (L2.start g.N [V.ref f]), ⟨xr.1, xr.2.imp id fun ⟨d1, xs, z1, z2, z3⟩ => ⟨d1, xs, z1, sl.ex _ _ (notD_xd _) z2, RepF.mono sl _ _ z3⟩⟩, ?_⟩
            rw [σl]
            show (evH g.cl g.hs c fs (nenv g)).post _
            rw [er]
            exact fun v' σ' H3 G3 R3 s3 rt => fin R2 s2 h R3 s3 rt
          cases ef : g.form with
          | rt =>
            rw [ef] at c1
            unfold GF.chk at c1
            split at c1
            · contradiction
            · rename_i y' p1 p2 p3 _
              have ey := of_decide_eq_true c1
              subst ey
              refine ⟨_, pss_one (try_core (W := fun _ _ _ _ => False) xg rfl LamX.takes0 c2 rq2 (tb := fun W' => tRet (fun σZ HZ Q => σZ[0]? = some (some (V.ref f)) ∧ HZ c' = some (LamX.CodeO c' (dn ++ ".<locals>." ++ "<lambda>")) ∧ tE (lsc sc scope) X.K lam.bor lam.ev (fun cls d _ H' => W' cls d σZ H') σ HZ Q)) fun W' pn xe tk' _ => pss_one (ps_ret (act W' pn xe p1 p2 tk'))), ?_⟩
              refine ⟨s0, hco, fx, L0, G, env, Rel.of_sc (sc := sc) (sc' := lsc sc scope) rfl rfl RL, ?_⟩
              cases el : lam.ev env with
              | bad => rw [el] at h; exact h
              | ok d e1 =>
                rw [el] at h
                unfold evG at h
                simp only [ef] at h
                refine fun v H2 G2 R2 s2 vr => h v H2 G2 (Rel.of_sc (sc := lsc sc scope) (sc' := sc) rfl rfl R2) s2 ?_
                rw [hb0] at vr
                exact vr
              | exc c fs e1 =>
                rw [el] at h
                exact fun H2 G2 cls dd R2 s2 xr => exc h R2 s2 xr
            · cases c1
          | ex rest =>
            rw [ef] at c1 rq1
            unfold GF.chk at c1
            split at c1
            · rename_i rr y' p1 p2 p3 bs z
              cases z
              obtain ⟨c3, c4⟩ := and3 c1
              have ey := of_decide_eq_true c3
              subst ey
              refine ⟨_, pss_one (try_core (W := fun _ _ _ _ => False) xg rfl LamX.takes0 c2 rq2 (tb := fun W' => tSeq (tDrop (fun σZ HZ Q => σZ[0]? = some (some (V.ref f)) ∧ HZ c' = some (LamX.CodeO c' (dn ++ ".<locals>." ++ "<lambda>")) ∧ tE (lsc sc scope) X.K lam.bor lam.ev (fun cls d _ H' => W' cls d σZ H') σ HZ Q)) (tS (gsc g gscope) X.K rest.ev W'))
                fun W' pn xe tk' po => pss_cons (ps_expr (act W' pn xe p1 p2 tk')) (rest.sound (gsc g gscope) _ bs W' c4 (xg.tr pn xe) rq1 tk' po)), ?_⟩
              refine ⟨s0, hco, fx, L0, G, env, Rel.of_sc (sc := sc) (sc' := lsc sc scope) rfl rfl RL, ?_⟩
              cases el : lam.ev env with
              | bad => rw [el] at h; exact h
              | ok d e1 =>
                rw [el] at h
                unfold evG at h
                simp only [ef] at h
                obtain ⟨d', e', er, h⟩ := told_post h
                refine fun v H2 G2 R2 s2 _ => ⟨_, [], seen G2 H2, _, rel0 R2 rfl rfl (L2.start g.N [V.ref f]), ?_⟩
                rw [σl]
                show (rest.ev (nenv g)).post _
                rw [er]
                exact fun v' σ' H3 G3 R3 s3 rt => fin R2 s2 h R3 s3 rt
              | exc c fs e1 =>
                rw [el] at h
                exact fun H2 G2 cls dd R2 s2 xr => exc h R2 s2 xr
            · contradiction
            · cases c1
        refine wpAny_call (codeAny_mono rc fun r s2 hq => ?_)
        match r, hq with
        | .error e, hq => exact (pass_none (X := X) σ pins H1 s' e s2 I1 hq)
        | .ok (.ret u), hq => exact I1.after hq
        | .ok .next, hq => exact False.elim hq
        | .ok .brk, hq => exact False.elim hq
        | .ok .cont, hq => exact False.elim hq
      · cases gchk
  · cases hc
/-- g(lambda: ..) -/
def CE.lamc (g : GB) (lam : CE) : CE where
  chk := chkLam g lam
  req z := ∃ k, Room (k + 2) z.A ∧ GRq z k g ∧ (∀ A, Room k A → lam.req { z with A := A }) ∧ TbRq z
  bor := none
  pur := false
  ev env := evG g (lam.ev env)
  pok h := by cases h
  bok i h := by cases h
  sound sc X e W hc xk q tk := by
    obtain ⟨k, q1, q2, q3, q4⟩ := q
    exact lam_pe hc xk q1 q2 q3 q4
end C

set_option maxRecDepth 100000
set_option maxHeartbeats 4000000
namespace C
open PySem L2
theorem bind_pur1 {a : CE} {f : D → Option D} (hp : a.pur = true) (env : Env) (d : D) (env' : Env) (h : ((a.ev env).bind fun x e1 => optE (f x) e1) = .ok d env') : env' = env := by
  cases ea : a.ev env with
  | bad => rw [ea] at h; cases h
  | exc c fs e1 => rw [ea] at h; cases h
  | ok dx e1 =>
    simp only [ea, ER.bind] at h
    cases ef : f dx with
    | none => rw [ef] at h; cases h
    | some z => rw [ef] at h; cases h; exact a.pok hp _ _ _ ea
/-- one operand, over the data -/
def rUn (K : Fg) (f : D → Option D) : V → Hp → VK → Prop := fun v H1 Q => ∃ G d, VW K G H1 d v ∧ match f d with | some d' => ∀ w H' G', Nw G G' H1 H' → Rep K G' d' w → Q w H' | none => False
/-- a reading of one operand: what is told of its value is enough -/
def CE.un (a : CE) (ok : Expr → Option Expr) (f : D → Option D) (pe : ∀ X e x te, ok e = some x → PE X x te → PE X e (tUn (rUn X.K f) te)) : CE where
  chk sc e := match ok e with | some x => a.chk sc x | none => false
  req := a.req
  bor := none
  pur := a.pur
  ev env := (a.ev env).bind fun x e1 => optE (f x) e1
  pok := bind_pur1
  bok i h := by cases h
  sound sc X e W hc k q tk := by
    cases eo : ok e with
    | none => rw [eo] at hc; cases hc
    | some x =>
      rw [eo] at hc
      refine (pe X e x _ eo (a.sound sc X x W hc k q tk)).imp fun σ H Q h => ?_
      obtain ⟨fx, L, G, env, R, h⟩ := h
      refine ⟨fx, L, G, env, R, ER.post_mono (ER.post_bind h) (fun d e1 _ h v H1 G1 R1 s1 r1 => ?_) fun _ _ _ h => h⟩
      obtain ⟨d', ef, h⟩ := optE_post h
      refine ⟨G1, d, R1.vw r1, ?_⟩
      rw [ef]
      exact fun w H' G' n r => h w H' G' (R1.grow n.1 n.2.1 n.2.2.1 (n.2.2.2 R1.tab.g)) (s1.trans n.2.1) r
theorem un_some {K : Fg} {f : D → Option D} {H1 : Hp} {Q : VK} {v : V} (h : rUn K f v H1 Q) : ∃ G d d', VW K G H1 d v ∧ f d = some d' ∧ ∀ w H' G', Nw G G' H1 H' → Rep K G' d' w → Q w H' := by
  obtain ⟨G, d, v1, h⟩ := h
  cases e : f d with
  | none => rw [e] at h; exact h.elim
  | some d' => rw [e] at h; exact ⟨G, d, d', v1, e, h⟩
def negD : D → Option D | .int i => some (.int (-i)) | _ => none
theorem un_negD {X : Cx} : UnR X (unaryOp .USub) (rUn X.K negD) := fun pins s σ H x v Q I rx h => by
  obtain ⟨G, d, d', v1, e, h⟩ := un_some h
  unfold negD at e
  split at e
  · cases e; exact un_neg pins s σ H x v Q I rx ⟨_, v1.int, h _ H G (Nw.refl _ _) rfl⟩
  · cases e
def CE.neg (a : CE) : CE := CE.un a (fun e => match e with | .UnaryOp .USub x _ => some x | _ => none) negD (fun X e x te h he => by
  split at h
  · cases h; exact pe_un un_negD he
  · cases h)
/-! ### texts of values -/
def fmtD : D → Option D
  | .str y => if y.length ≤ sizeLine then some (.str y) else none
  | .int i => if i.natAbs.log2 < 1920 then some (.str (toString i)) else none
  | _ => none
def CE.fmt (a : CE) : CE where
  chk sc e := match e with | .FormattedValue x n none _ => decide (n = -1) && a.chk sc x | _ => false
  req := a.req
  bor := none
  pur := a.pur
  ev env := (a.ev env).bind fun x e1 => optE (fmtD x) e1
  pok := bind_pur1
  bok i h := by cases h
  sound sc X e W hc k q tk := by
    split at hc
    · obtain ⟨h1, h2⟩ := and3 hc
      rw [of_decide_eq_true h1]
      refine (pe_fmt (a.sound sc X _ W h2 k q tk)).imp fun σ H Q h => ?_
      obtain ⟨fx, L, G, env, R, h⟩ := h
      refine ⟨fx, L, G, env, R, ER.post_mono (ER.post_bind h) (fun d e1 _ h v H1 G1 R1 s1 r1 => ?_) fun _ _ _ h => h⟩
      obtain ⟨d', ef, hz⟩ := optE_post h
      clear h
      unfold fmtD at ef
      split at ef
      · split at ef
        · cases ef; exact .inl ⟨_, (R1.vw r1).str, by assumption, hz _ H1 G1 R1 s1 rfl⟩
        · cases ef
      · split at ef
        · cases ef; exact .inr ⟨_, (R1.vw r1).int, by assumption, hz _ H1 G1 R1 s1 rfl⟩
        · cases ef
      · cases ef
    · cases hc
/-- f'..' -/
def evJ : List CE → Str → Env → ER
  | [], acc, env => .ok (.str acc) env
  | c :: cs, acc, env => (c.ev env).bind fun x e1 => match x with | .str y => if (acc ++ y).length ≤ sizeLine then evJ cs (acc ++ y) e1 else .bad | _ => .bad
def chkJ (sc : SC) : List CE → List Expr → Bool
  | [], [] => true
  | c :: cs, e :: es => c.chk sc e && chkJ sc cs es
  | _, _ => false
def reqJ : List CE → Rq → Prop
  | [], _ => True
  | c :: cs, z => c.req z ∧ reqJ cs z
theorem pj_of {sc : SC} {X : Cx} {W : WX} (k : XOk sc X) (tk : Takes X W) : ∀ (cs : List CE) (es : List Expr), chkJ sc cs es = true → reqJ cs (rq X) → PJ X es (cs.map fun c => tE sc X.K c.bor c.ev W)
  | [], [], _, _ => .nil
  | [], _ :: _, h, _ => by cases h
  | _ :: _, [], h, _ => by cases h
  | c :: cs, e :: es, h, q => by
    obtain ⟨h1, h2⟩ := and3 h
    exact .cons (c.sound sc X e W h1 k q.1 tk) (pj_of k tk cs es h2 q.2)
theorem js_of {sc : SC} {K : Fg} {W : WX} {f : Fx} {L : List Addr} {σ : St} {Q : Str → Hp → Prop} : ∀ (cs : List CE) (acc : Str) (G H : Hp) (env : Env), Rel sc K f L G H σ env →
    (evJ cs acc env).post (fun d env' => ∀ y, d = .str y → ∀ H' G', Rel sc K f L G' H' σ env' → Same G G' → Q y H') (XW sc K f L G σ W) → tJs (cs.map fun c => tE sc K c.bor c.ev W) acc σ H Q
  | [], acc, G, H, env, R, h => h acc rfl H G R (Same.refl _)
  | c :: cs, acc, G, H, env, R, h => by
    refine ⟨f, L, G, env, R, ER.post_mono (ER.post_bind h) (fun d e1 _ h v H1 G1 R1 s1 r1 => ?_) fun _ _ _ h => h⟩
    cases d with
    | str y =>
      by_cases hz : (acc ++ y).length ≤ sizeLine
      · simp only [if_pos hz] at h
        exact ⟨y, (R1.vw r1).str, hz, js_of cs (acc ++ y) G1 H1 e1 R1 (ER.post_mono h (fun d e2 _ h y' ed H' G' R' s' => h y' ed H' G' R' (s1.trans s')) (XW.mono s1))⟩
      · simp only [if_neg hz] at h; exact h.elim
    | _ => exact h.elim
theorem evJ_str : ∀ (cs : List CE) (acc : Str) (env : Env) (d : D) (e : Env), evJ cs acc env = .ok d e → ∃ y, d = .str y
  | [], acc, env, d, e, h => by cases h; exact ⟨_, rfl⟩
  | c :: cs, acc, env, d, e, h => by
    unfold evJ at h
    cases ec : c.ev env with
    | bad => rw [ec] at h; cases h
    | exc _ _ _ => rw [ec] at h; cases h
    | ok x e1 =>
      simp only [ec, ER.bind] at h
      split at h
      · split at h
        · exact evJ_str cs _ _ _ _ h
        · cases h
      · cases h
def CE.fstr (cs : List CE) : CE where
  chk sc e := match e with | .JoinedStr (a :: b :: es) _ => chkJ sc cs (a :: b :: es) | _ => false
  req := reqJ cs
  bor := none
  pur := false
  ev env := evJ cs Str.empty env
  pok h := by cases h
  bok i h := by cases h
  sound sc X e W hc k q tk := by
    split at hc
    · refine (pe_joined (pj_of k tk cs _ hc q)).imp fun σ H Q h => ?_
      obtain ⟨fx, L, G, env, R, h⟩ := h
      exact js_of cs Str.empty G H env R (ER.post_mono h (fun d e1 _ h y ed H' G' R' s' => h _ H' G' R' s' (by rw [ed]; rfl)) fun _ _ _ h => h)
    · cases hc
def CE.fstr1 (a : CE) : CE where
  chk sc e := match e with | .JoinedStr [x] _ => a.chk sc x | _ => false
  req := a.req
  bor := a.bor
  pur := a.pur
  ev := a.ev
  pok := a.pok
  bok := a.bok
  sound sc X e W hc k q tk := by
    split at hc
    · exact pe_joined1 (a.sound sc X _ W hc k q tk)
    · cases hc
def bStr : Bf where
  x := "str"
  v := .ty "str"
  f ds := match ds with | [.str y] => some (.str y) | [.int i] => if i.natAbs.log2 < 1920 then some (.str (toString i)) else none | _ => none
  bx := by first | exact PyProof.Rows.boot_str | exact PyProof.Rows.Boot.str
  nx := ⟨by decide, by decide⟩
  ok X _ pins s σ H xs us Q I r q0 := by
    obtain ⟨G, ds, d, le, p, e, q⟩ := rC_some q0
    clear q0
    split at e
    · cases e
      obtain ⟨x, rfl, v⟩ := pair1 p
      exact SkE.call_str_str pins s σ H _ us Q I r ⟨_, by rw [v.str], q _ H G (Nw.refl _ _) rfl⟩
    · split at e
      · cases e
        obtain ⟨x, rfl, v⟩ := pair1 p
        exact call_str_int pins s σ H _ us Q I r ⟨_, by rw [v.int], by assumption, q _ H G (Nw.refl _ _) rfl⟩
      · cases e
    · cases e
/-! ### and, or, not as values of bools -/
def CE.one (a : CE) : CE where
  chk sc e := match e with | .BoolOp _ [x] _ => a.chk sc x | _ => false
  req := a.req
  bor := a.bor
  pur := a.pur
  ev := a.ev
  pok := a.pok
  bok := a.bok
  sound sc X e W hc k q tk := by
    split at hc
    · exact pe_one (a.sound sc X _ W hc k q tk)
    · cases hc
def andE (a b : CE) (env : Env) : ER := (a.ev env).bind fun x e1 => match x with | .bl true => b.ev e1 | .bl false => .ok (.bl false) e1 | _ => .bad
def orE (a b : CE) (env : Env) : ER := (a.ev env).bind fun x e1 => match x with | .bl false => b.ev e1 | .bl true => .ok (.bl true) e1 | _ => .bad
def CE.and_ (a b : CE) : CE where
  chk sc e := match e with | .BoolOp .And (x :: y :: r) p => a.bor.isNone && (b.bor.isNone && (a.chk sc x && b.chk sc (.BoolOp .And (y :: r) p))) | _ => false
  req z := a.req z ∧ b.req z
  bor := none
  pur := false
  ev := andE a b
  pok h := by cases h
  bok i h := by cases h
  sound sc X e W hc k q tk := by
    split at hc
    · obtain ⟨h1, h⟩ := and3 hc
      obtain ⟨h2, h⟩ := and3 h
      obtain ⟨h3, h4⟩ := and3 h
      have b1 : a.bor = none := by simpa using h1
      have b2 : b.bor = none := by simpa using h2
      refine (pe_and (a.sound sc X _ W h3 k q.1 tk) (b.sound sc X _ W h4 k q.2 tk)).imp fun σ H Q h => ?_
      obtain ⟨fx, L, G, env, R, h⟩ := h
      refine ⟨fx, L, G, env, R, ER.post_mono (ER.post_bind h) (fun d e1 _ h v H1 G1 R1 s1 r1 => ?_) fun _ _ _ h => h⟩
      cases d with
      | bl c =>
        refine ⟨c, (R1.vw r1).bl, ?_⟩
        cases c with
        | true =>
          rw [if_pos rfl]
          refine ⟨fx, L, G1, e1, R1, ER.post_mono h (fun d e2 _ h v H2 G2 R2 s2 r2 => ?_) (XW.mono s1)⟩
          rw [b2] at r2
          exact h v H2 G2 R2 (s1.trans s2) r2
        | false => rw [if_neg (by simp)]; exact h _ H1 G1 R1 s1 rfl
      | _ => exact h.elim
    · cases hc
def CE.or_ (a b : CE) : CE where
  chk sc e := match e with | .BoolOp .Or (x :: y :: r) p => a.bor.isNone && (b.bor.isNone && (a.chk sc x && b.chk sc (.BoolOp .Or (y :: r) p))) | _ => false
  req z := a.req z ∧ b.req z
  bor := none
  pur := false
  ev := orE a b
  pok h := by cases h
  bok i h := by cases h
  sound sc X e W hc k q tk := by
    split at hc
    · obtain ⟨h1, h⟩ := and3 hc
      obtain ⟨h2, h⟩ := and3 h
      obtain ⟨h3, h4⟩ := and3 h
      have b1 : a.bor = none := by simpa using h1
      have b2 : b.bor = none := by simpa using h2
      refine (pe_or (a.sound sc X _ W h3 k q.1 tk) (b.sound sc X _ W h4 k q.2 tk)).imp fun σ H Q h => ?_
      obtain ⟨fx, L, G, env, R, h⟩ := h
      refine ⟨fx, L, G, env, R, ER.post_mono (ER.post_bind h) (fun d e1 _ h v H1 G1 R1 s1 r1 => ?_) fun _ _ _ h => h⟩
      cases d with
      | bl c =>
        refine ⟨c, (R1.vw r1).bl, ?_⟩
        cases c with
        | false =>
          rw [if_neg (by simp)]
          refine ⟨fx, L, G1, e1, R1, ER.post_mono h (fun d e2 _ h v H2 G2 R2 s2 r2 => ?_) (XW.mono s1)⟩
          rw [b2] at r2
          exact h v H2 G2 R2 (s1.trans s2) r2
        | true => rw [if_pos rfl]; exact h _ H1 G1 R1 s1 rfl
      | _ => exact h.elim
    · cases hc
def notB : D → Option D | .bl i => some (.bl (!i)) | _ => none
def CE.notv (a : CE) : CE where
  chk sc e := match e with | .UnaryOp .Not x _ => a.chk sc x | _ => false
  req := a.req
  bor := none
  pur := a.pur
  ev env := (a.ev env).bind fun x e1 => optE (notB x) e1
  pok := bind_pur1
  bok i h := by cases h
  sound sc X e W hc k q tk := by
    split at hc
    · refine (pe_not (a.sound sc X _ W hc k q tk)).imp fun σ H Q h => ?_
      obtain ⟨fx, L, G, env, R, h⟩ := h
      refine ⟨fx, L, G, env, R, ER.post_mono (ER.post_bind h) (fun d e1 _ h v H1 G1 R1 s1 r1 => ?_) fun _ _ _ h => h⟩
      obtain ⟨d', ef, hz⟩ := optE_post h
      clear h
      unfold notB at ef
      split at ef
      · cases ef; exact ⟨_, (R1.vw r1).bl, hz _ H1 G1 R1 s1 rfl⟩
      · cases ef
    · cases hc
/-! ### a module's names -/
def CE.glob (x : Str) (d : D) (v : Fg → V) (rep : ∀ K G, Rep K G d (v K)) : CE where
  chk sc e := match e with | .Name y _ => decide (y = x) && (chkGl sc x && !(x == ("__debug__" : Str))) | _ => false
  req z := ∃ u, z.mg x = some u ∧ RelV (v z.K) u
  bor := none
  pur := true
  ev env := .ok d env
  pok _ env d env' h := by cases h; rfl
  bok i h := by cases h
  sound sc X e W hc k q tk := by
    split at hc
    · obtain ⟨h1, h⟩ := and3 hc
      obtain ⟨h2, h3⟩ := and3 h
      obtain ⟨u, hm, hr⟩ := q
      rw [of_decide_eq_true h1]
      refine (pe_glob (chkGl_ok h2 k) hm hr (by simpa using h3)).imp fun σ H Q h => ?_
      obtain ⟨fx, L, G, env, R, h⟩ := h
      exact h _ H G R (Same.refl _) (rep _ _)
    · cases hc
def CE.gstr (x y : Str) : CE := CE.glob x (.str y) (fun _ => .str y) fun _ _ => rfl
def CE.gint (x : Str) (i : Int) : CE := CE.glob x (.int i) (fun _ => .int i) fun _ _ => rfl
def CE.ggl (x : Str) : CE := CE.glob x (.gl x) (fun K => .ref (ga K x)) fun _ _ => rfl
end C

set_option maxRecDepth 100000
set_option maxHeartbeats 4000000
namespace C
open PySem L2
section
open PySem.W PySem.Calls
variable {prog : Program} {w : World} {A : Around} {E : Value → Shared → Prop} {s : Shared} {K : Fg} {x c : Addr} {ox : Obj} {od : Option Obj}
theorem fo_data {name : Str} {a g : Value} (hc : (clsIn K c).isSome = true) (ha : findIn K (.ref c) name = some (some a)) (hg : specialIn K a "__get__" = some (some g)) (ht : takesIn K a = some true) : findObj K c od name = some (.bind g a) := by
  obtain ⟨cd, e⟩ := Option.isSome_iff_exists.mp hc
  unfold findObj
  rw [e, Option.bind_some, ha, Option.bind_some]; simp [hg, ht]
theorem exc_class {Q : Option Value → Shared → Prop} (C : ExcC K c) (X : K.In s.heap) (I : InstAt s.heap x ox c od) (h : Q (some (.ref c)) { s with toks := s.toks + 1 }) : wpAny (model prog w) A (getAttr? (.ref x) "__class__") Q E s := by
  have hf : findObj K c od "__class__" = some (.bind (.builtin "getset_descriptor.__get__") (.builtin "object.__class__")) := fo_data (by obtain ⟨cd, hc, _⟩ := any_some C.hd; rw [hc]; rfl) C.ha C.hn C.ht
  obtain ⟨hp, g, d, t, os⟩ := s
  have T0 := I.type (M := model prog w); have T1 := looks_findIn (M := model prog w) X C.hg; have T2 := looks_findIn (M := model prog w) X C.hk; have T3 := looks_find (M := model prog w) X I hf
  have sub : Looks (model prog w) hp (isInstance (.ref x) (.type "BaseException")) true := T0.andThen (looks_subIn X C.hs)
  have z0 : (false && onTheHeap (Value.builtin "BaseException.__getattribute__")) = false := rfl
  have z2 : (Value.builtin "BaseException.__getattribute__" == Value.builtin "object.__getattribute__") = false := by decide +kernel
  have z1 : (onTheHeap (Value.ref c) && Value.builtin "BaseException.__getattribute__" == Value.builtin "object.__getattribute__") = false := by rw [z2]; rfl
  unfold getAttr? getAttrBy? getAttrBy
  refine wpAny_bind (wpAny_mkText (wpAny_bind (wpAny_attempt (wpAny_holding (wpAny_bind (T0.at (wpAny_bind (T1.at ?_))))))))
  show wpAny _ _ (if (onTheHeap (Value.ref c) && Value.builtin "BaseException.__getattribute__" == Value.builtin "object.__getattribute__") = true then _ else _) _ _ _
  rw [z1, if_neg Bool.false_ne_true]; unfold getAttrByItsOwn hookBefore; refine wpAny_bind ?_
  rw [if_pos (show onTheHeap (Value.ref c) = true from rfl)]; refine T2.at ?_; refine wpAny_bind (wpAny_attempt (wpAny_holding ?_)); unfold callGetattribute
  rw [z0, if_neg Bool.false_ne_true]; unfold boundAndCalled; rw [PySem.F.excAttr_ValueError.ga.bind (.ref x)]; refine wpAny_bind (wpAny_pure ?_)
  show wpAny _ _ (call (.builtin "BaseException.__getattribute__") [.ref x, .str "__class__" t]) _ _ _
  refine wpAny_call (codeAny_call_builtin PySem.F.excAttr_ValueError.ga.plain PySem.F.entry_bexc_ga (@check_slot (model prog w) _ _ ⟨hp, g, d, t + 1, os⟩ "BaseException.__getattribute__" "BaseException" "__getattribute__" (.ref x) [.str "__class__" t] [] _ (by decide +kernel) (by decide +kernel) sub (PySem.F.args_bexc_ga (.ref x) (.str "__class__" t)) ?_))
  unfold Builtin.«object.__getattribute__»; refine wpAny_bind (wpAny_of_eq (a := ((Value.ref x : Value), [Value.str "__class__" t])) (by first | rfl | (simp only [slotArgs]; rfl)) ?_)
  refine wpAny_bind (wpAny_pure (wpAny_bind (T0.at (wpAny_bind (T3.at ?_)))))
  show wpAny _ _ (holding [Value.builtin "object.__class__"] (call (.builtin "getset_descriptor.__get__") [.builtin "object.__class__", .ref x, .ref c]) >>= ret) _ _ _
  refine wpAny_bind (wpAny_holding (wpAny_call (class_get (s := ⟨hp, g, d, t + 1, os⟩) (ox := ox) (od := od) X I C.hm (wpAny_pure ?_))))
  show wpAny _ _ (handedOut (.ref c)) _ _ _
  rw [handedOut_of (v := .ref c) rfl]
  first
    | exact wpAny_pure (wpAny_pure h)
    | exact wpAny_pure h
theorem kitx_exc (C : ExcC K c) : KitX K (.ref x) (.ref c) (fun h => InstAt h x ox c od) where
  ty := fun _ _ _ I => I.type
  it := fun _ _ X _ => by
    obtain ⟨cdD, hcD, _⟩ := any_some C.hd
    unfold clsIn at hcD
    split at hcD
    · rename_i c' d' cd' sl' ho
      exact fun A' Q' E' s' k q => by unfold isType loadHead; exact wpAny_bind (wpAny_loadPart (k _ _ (X _ _ ho)) (wpAny_pure q))
    · cases hcD
  ne := fun h tp dd its n sl X htp => by
    obtain ⟨cdD, hcD, _⟩ := any_some C.hd
    refine Bool.eq_false_iff.mpr fun q => ?_
    have e : c = tp := Value.ref.inj (beq_iff_eq.mp q)
    subst e
    unfold clsIn at hcD
    split at hcD
    · rename_i c' d' cd' sl' ho
      cases (X _ _ ho).symm.trans htp
    · cases hcD
  ca := fun X I k => exc_class C X I k
end
/-! ### isinstance(x, C) -/
/-- the class asked for: a built-in type, an own class -/
inductive CK where
  | ty (x : Str) (n : String) | gl (x : Str)
def CK.v (K : Fg) : CK → V | .ty _ n => .ty n | .gl x => .ref (ga K x)
def CK.u (K : Fg) : CK → Value | .ty _ n => .type n | .gl x => .ref (ga K x)
def CK.x : CK → Str | .ty x _ => x | .gl x => x
theorem CK.cls (K : Fg) (c : CK) : ClsV (c.v K) (c.u K) := by cases c <;> constructor
/-- an own class whose instances are asked -/
structure InsC (K : Fg) (c : Addr) : Prop where
  cl : Cls K c
  ha : PySem.W.findIn K (.ref c) "__class__" = some (some (.builtin "object.__class__"))
  hn : PySem.W.specialIn K (.builtin "object.__class__") "__get__" = some (some (.builtin "getset_descriptor.__get__"))
  ht : PySem.W.takesIn K (.builtin "object.__class__") = some true
  hm : PySem.W.mroIn K c (.type "object") = some true
/-- the name of the type of a value that is no instance -/
def tyN : D → Option String
  | .non => some "NoneType" | .bl _ => some "bool" | .int _ => some "int" | .str _ => some "str" | .lst _ => some "list" | .dK _ => some "dict"
  | .tup _ => some "tuple" | _ => none
/-- the answer: bs of the built-in types, cs of own classes, es of exceptions -/
structure Ans where
  bs : List (String × Bool)
  cs : List (Str × Bool)
  es : List (Str × Bool)
def isiD (a : Ans) (d : D) : Option Bool := match d with
  | .ins c _ => (a.cs.find? (fun p => decide (p.1 = c))).map (·.2)
  | .exc c _ => (a.es.find? (fun p => decide (p.1 = c))).map (·.2)
  | d => match tyN d with | some t => (a.bs.find? (fun p => decide (p.1 = t))).map (·.2) | none => none
def IsRq (z : Rq) (k : CK) (a : Ans) : Prop := (∀ p ∈ a.bs, PySem.W.kitOne z.K (.type p.1) (k.u z.K) = some p.2) ∧ (∀ p ∈ a.cs, PySem.W.kitOne z.K (.ref (ga z.K p.1)) (k.u z.K) = some p.2 ∧ InsC z.K (ga z.K p.1)) ∧ ∀ p ∈ a.es, PySem.W.kitOne z.K (.ref (ga z.K p.1)) (k.u z.K) = some p.2 ∧ ExcC z.K (ga z.K p.1)
theorem find_mem {α : Type} [DecidableEq α] {l : List (α × Bool)} {a : α} {b : Bool} (h : (l.find? (fun p => decide (p.1 = a))).map (·.2) = some b) : (a, b) ∈ l := by
  obtain ⟨p, h1, rfl⟩ := Option.map_eq_some_iff.mp h
  have h2 := List.find?_some h1
  have h3 : p.1 = a := of_decide_eq_true h2
  rw [← h3]
  exact List.mem_of_find?_eq_some h1
def rIsD (K : Fg) (k : CK) (an : Ans) : List V → Hp → VK → Prop := fun xs H Q => ∃ G d x b, xs = [x, k.v K] ∧ VW K G H d x ∧ isiD an d = some b ∧ Q (.bl b) H
theorem call_isD {X : Cx} {k : CK} {an : Ans} (q : IsRq (rq X) k an) : CallR X (.builtin "isinstance") (rIsD X.K k an) := by
  intro pins s σ H xs us Q I r h
  obtain ⟨G, d, x, b, rfl, vw, e, hq⟩ := h
  have base : ∀ t, TyX X.K H x (.type t) → (t, b) ∈ an.bs → wpAny (model X.prog X.w) X.A (call (.builtin "isinstance") us) (EP X pins σ Q) X.xe s := fun t ty hm => call_isi pins s σ H _ us Q I r ⟨x, _, _, _, b, rfl, k.cls X.K, ty, q.1 _ hm, hq⟩
  cases d with
  | ins c fs =>
    obtain ⟨a, dx, ys, rfl, ha, _⟩ := vw.ins
    obtain ⟨k1, k2⟩ := q.2.1 _ (find_mem e)
    exact call_isi pins s σ H _ us Q I r ⟨_, _, _, _, b, rfl, k.cls X.K, .base (.ins ha k2.cl k2.ha k2.hn k2.ht k2.hm), k1, hq⟩
  | exc c fs =>
    obtain ⟨a, dd, rfl, ha, z⟩ := vw.exc
    obtain ⟨k1, k2⟩ := q.2.2 _ (find_mem e)
    obtain ⟨u1, u2, rfl, r1, r2⟩ := vals2 r
    cases r1
    have e2 := (k.cls X.K).eq r2
    subst e2
    obtain ⟨⟨oe, vs, ho, hz, hd⟩, _, _⟩ := I.hok a _ ha
    have hn : PySem.W.notCls oe = true := by unfold PySem.W.notCls; rw [hd] <;> rfl
    rcases z with ⟨_, rfl⟩ | ⟨dx, ys, rfl, hx, _⟩
    · exact PySem.W.kia_one (kitx_exc (ox := oe) (od := none) k2) I.kIn ⟨ho, hz.1, hn, by rw [hz.2]; trivial⟩ k1 (fun z => nomatch z) fun tk => ⟨.bl b, H, I.tok tk, rfl, hq⟩
    · obtain ⟨mA, hns, hr⟩ := (show ObjOk X.prog X.w H s.heap dx (.xd ys) from I.hok dx _ hx)
      obtain ⟨od, hod, hl⟩ := lookIn_ns hns
      exact PySem.W.kia_one (kitx_exc (ox := oe) (od := some od) k2) I.kIn ⟨ho, hz.1, hn, by rw [hz.2]; exact hod⟩ k1 (fun z => nomatch z) fun tk => ⟨.bl b, H, I.tok tk, rfl, hq⟩
  | non => exact base "NoneType" (by rw [vw.non]; exact .base .non) (find_mem e)
  | bl y => exact base "bool" (by rw [vw.bl]; exact .base (.bl _)) (find_mem e)
  | int y => exact base "int" (by rw [vw.int]; exact .base (.int _)) (find_mem e)
  | str y => exact base "str" (by rw [vw.str]; exact .base (.str _)) (find_mem e)
  | lst l => obtain ⟨a, ys, rfl, ha, _⟩ := vw.lst; exact base "list" (.base (.lst ha)) (find_mem e)
  | tup l =>
    obtain ⟨a, ys, rfl, ha, _⟩ := vw.tup
    rcases ha with (ha | ⟨o, ha⟩) | ⟨o, its, n, ho, hc, _⟩
    · exact base "tuple" (.base (.tup ha)) (find_mem e)
    · exact base "tuple" (.fTuple ha) (find_mem e)
    · exact base "tuple" (.kTuple ho hc) (find_mem e)
  | dK l =>
    obtain ⟨a, ys, rfl, ha, _⟩ := vw.dK
    rcases ha with ha | ⟨ob, ha⟩
    · exact base "dict" (.base (.dK ha)) (find_mem e)
    · exact base "dict" (.fDict ha) (find_mem e)
  | _ => cases e
/-- what stands for the class's name -/
def CK.rq (z : Rq) : CK → Prop | .ty x n => z.mg x = none ∧ bootBuiltins x = some (.type n) ∧ x ≠ "__name__" | .gl x => z.mg x = some (.ref (ga z.K x))
def CE.isi (k : CK) (an : Ans) (a : CE) : CE where
  chk sc e := match e with | .Call (.Name y _) [o, .Name c _] [] _ => decide (y = "isinstance") && (decide (c = k.x) && (chkGl sc "isinstance" && (chkGl sc k.x && (!(k.x == ("__debug__" : Str)) && (notStar o && a.chk sc o))))) | _ => false
  req z := z.mg "isinstance" = none ∧ k.rq z ∧ IsRq z k an ∧ a.req z
  bor := none
  pur := a.pur
  ev env := (a.ev env).bind fun x e1 => optE ((isiD an x).map D.bl) e1
  pok := bind_pur1 (f := fun x => (isiD an x).map D.bl)
  bok i h := by cases h
  sound sc X e W hc xk q tk := by
    split at hc
    · rename_i y p o c cp pos
      obtain ⟨h1, h⟩ := and3 hc
      obtain ⟨h2, h⟩ := and3 h
      obtain ⟨h3, h⟩ := and3 h
      obtain ⟨h4, h⟩ := and3 h
      obtain ⟨h5, h⟩ := and3 h
      obtain ⟨h6, h7⟩ := and3 h
      rw [of_decide_eq_true h1, of_decide_eq_true h2]
      have cls : PE X (.Name k.x cp) (tC (k.v X.K)) := by
        cases k with
        | ty x n => exact pe_bltn (chkGl_ok h4 xk) q.2.1.1 q.2.1.2.1 rfl q.2.1.2.2 (by simpa using h5)
        | gl x => exact pe_glob (chkGl_ok h4 xk) q.2.1 rfl (by simpa using h5)
      refine (pe_callB (call_isD q.2.2.1) (chkGl_ok h3 xk) q.1 PyProof.Rows.Boot.isinstance (pa_cons (a.sound sc X o W h7 xk q.2.2.2 tk) (pa_cons cls pa_nil rfl) (notStar_ok h6)) (by decide) (by decide) (notStar_ok h6) rfl).imp fun σ H Q h => ?_
      obtain ⟨fx, L, G, env, R, h⟩ := h
      refine ⟨fx, L, G, env, R, ER.post_mono (ER.post_bind h) (fun d e1 _ h v H1 G1 R1 s1 r1 => ?_) fun _ _ _ h => h⟩
      obtain ⟨d', ef, h⟩ := optE_post h
      obtain ⟨b, e2, rfl⟩ := Option.map_eq_some_iff.mp ef
      exact ⟨G1, d, v, b, rfl, R1.vw r1, e2, h _ H1 G1 R1 s1 rfl⟩
    · cases hc
end C

set_option maxRecDepth 100000
set_option maxHeartbeats 4000000
namespace C
open PySem L2
/-! ### slices -/
def cutD {α : Type} (xs : List α) (lo hi : Option Int) : List α := (xs.drop (HT.sIx xs.length 0 lo)).take (HT.sIx xs.length xs.length hi - HT.sIx xs.length 0 lo)
theorem Reps.drop {K : Fg} {G : Hp} : ∀ (n : Nat) {l : List D} {xs : List V}, Reps K G l xs → Reps K G (l.drop n) (xs.drop n)
  | 0, l, xs, h => h
  | n + 1, [], xs, h => by cases h; exact rfl
  | n + 1, d :: l, xs, h => by
    obtain ⟨x, r, rfl, h1, h2⟩ := h
    exact Reps.drop n h2
theorem Reps.take {K : Fg} {G : Hp} : ∀ (n : Nat) {l : List D} {xs : List V}, Reps K G l xs → Reps K G (l.take n) (xs.take n)
  | 0, l, xs, h => by rw [List.take_zero, List.take_zero]; exact rfl
  | n + 1, [], xs, h => by cases h; exact rfl
  | n + 1, d :: l, xs, h => by
    obtain ⟨x, r, rfl, h1, h2⟩ := h
    exact ⟨x, _, rfl, h1, Reps.take n h2⟩
theorem Reps.cut {K : Fg} {G : Hp} {l : List D} {xs : List V} (lo hi : Option Int) (h : Reps K G l xs) : Reps K G (cutD l lo hi) (cutV xs lo hi) := by
  unfold cutD cutV
  rw [h.length]
  exact Reps.take _ (Reps.drop _ h)
def sliceD (d : D) (lo hi : Option Int) : Option D := match d with
  | .lst l => some (.lst (cutD l lo hi))
  | .tup (x :: l) => some (.tup (cutD (x :: l) lo hi))
  | .str z => if z.length ≤ sizeLine then some (.str (cutS z lo hi)) else none
  | _ => none
def rSl (K : Fg) : V → Option Int → Option Int → Hp → VK → Prop := fun x lo hi H Q => rSlL K x lo hi H Q ∨ (rSlS x lo hi H Q ∨ rSlA K x lo hi H Q)
theorem sl_any {X : Cx} : SlR X (rSl X.K) := SlR.or sl_list (SlR.or sl_str sl_tupA)
def evPart (o : Option CE) (env : Env) (k : Option Int → Env → ER) : ER := match o with
  | none => k none env
  | some c => (c.ev env).bind fun d e => match d with | .int i => k (some i) e | _ => .bad
def reqPart (o : Option CE) (z : Rq) : Prop := match o with | none => True | some c => c.req z
def chkPart (o : Option CE) (sc : SC) (e : Option Expr) : Bool := match o, e with | none, none => true | some c, some e => c.chk sc e | _, _ => false
def tPt (sc : SC) (K : Fg) (W : WX) (o : Option CE) : TO := match o with | none => tNoPart | some c => tPart (tE sc K c.bor c.ev W)
theorem part_po {sc : SC} {X : Cx} {W : WX} {o : Option CE} {e : Option Expr} (hc : chkPart o sc e = true) (k : XOk sc X) (q : reqPart o (rq X)) (tk : Takes X W) : PO X e (tPt sc X.K W o) := by
  cases o with
  | none =>
    cases e with
    | none => exact po_none
    | some _ => cases hc
  | some c =>
    cases e with
    | none => cases hc
    | some e => exact po_some (c.sound sc X e W hc k q tk)
theorem part_to {sc : SC} {K : Fg} {W : WX} {o : Option CE} {f : Fx} {L : List Addr} {G H : Hp} {σ : St} {env : Env} {Q : Option Int → Hp → Prop} {k : Option Int → Env → ER} {P : D → Env → Prop} (R : Rel sc K f L G H σ env)
    (h : (evPart o env k).post P (XW sc K f L G σ W)) (go : ∀ i env' H' G', Rel sc K f L G' H' σ env' → Same G G' → (k i env').post P (XW sc K f L G σ W) → Q i H') : tPt sc K W o σ H Q := by
  cases o with
  | none => exact go none env H G R (Same.refl _) h
  | some c =>
    refine ⟨f, L, G, env, R, ER.post_mono (ER.post_bind h) (fun d e1 _ h v H1 G1 R1 s1 r1 => ?_) fun _ _ _ h => h⟩
    cases d with
    | int i => exact ⟨i, (R1.vw r1).int, go (some i) e1 H1 G1 R1 s1 h⟩
    | _ => exact h.elim
def CE.sl (a : CE) (lo hi : Option CE) : CE where
  chk sc e := match e with | .Subscript x (.Slice l u none _) _ => a.bor.isNone && (a.chk sc x && (chkPart lo sc l && chkPart hi sc u)) | _ => false
  req z := a.req z ∧ reqPart lo z ∧ reqPart hi z
  bor := none
  pur := false
  ev env := (a.ev env).bind fun x e1 => evPart lo e1 fun l e2 => evPart hi e2 fun u e3 => optE (sliceD x l u) e3
  pok h := by cases h
  bok i h := by cases h
  sound sc X e W hc k q tk := by
    split at hc
    · obtain ⟨h1, h⟩ := and3 hc
      obtain ⟨h2, h⟩ := and3 h
      obtain ⟨h3, h4⟩ := and3 h
      have b1 : a.bor = none := by simpa using h1
      refine (pe_slice sl_any (a.sound sc X _ W h2 k q.1 tk) (part_po h3 k q.2.1 tk) (part_po h4 k q.2.2 tk)).imp fun σ H Q h => ?_
      obtain ⟨fx, L, G, env, R, h⟩ := h
      refine ⟨fx, L, G, env, R, ER.post_mono (ER.post_bind h) (fun d e1 _ h v H1 G1 R1 s1 r1 => ?_) fun _ _ _ h => h⟩
      rw [b1] at r1
      refine part_to R1 (ER.post_mono h (fun _ _ _ z => z) (XW.mono s1)) fun l e2 H2 G2 R2 s2 h => ?_
      refine part_to R2 (ER.post_mono h (fun _ _ _ z => z) (XW.mono s2)) fun u e3 H3 G3 R3 s3 h => ?_
      have r3 : Rep X.K G3 d v := Rep.mono (Le.of_same (s2.trans s3)) _ _ r1
      have vw : VW X.K G3 H3 d v := ⟨R3.le, .inl r3⟩
      have s13 := (s1.trans s2).trans s3
      obtain ⟨d', ef, hz⟩ := optE_post h
      clear h
      cases d with
      | lst l0 =>
        cases ef
        obtain ⟨p, xs, rfl, hp, rr⟩ := vw.lst
        refine .inl ⟨p, xs, rfl, SqL.of hp, fun w hw => ?_⟩
        have sm := same_upd (o := .lst (cutV xs l u)) (R3.gnone hw)
        exact hz _ _ _ (R3.alloc hw) (s13.trans sm) ⟨w, _, rfl, upd_same, Reps.mono (Le.of_same sm) _ _ (rr.cut l u)⟩
      | str z =>
        unfold sliceD at ef
        dsimp only at ef
        split at ef
        · cases ef
          exact .inr (.inl ⟨z, vw.str, by assumption, hz _ _ _ R3 s13 rfl⟩)
        · cases ef
      | tup l0 =>
        cases l0 with
        | nil => cases ef
        | cons d0 l0 =>
          cases ef
          obtain ⟨p, xs, rfl, hp, rr⟩ := vw.tup
          refine .inr (.inr ⟨p, xs, rfl, hp, fun ww => ?_, fun _ w hw => ?_⟩)
          · refine hz _ _ _ R3 s13 ?_
            have e0 : cutD (d0 :: l0) l u = d0 :: l0 := by
              unfold cutD
              rw [rr.length, ww.1, ww.2, List.drop_zero, Nat.sub_zero, ← rr.length, List.take_length]
            show Rep X.K G3 (.tup (cutD (d0 :: l0) l u)) _
            rw [e0]
            exact r3
          · have sm := same_upd (o := .tup (cutV xs l u)) (R3.gnone hw)
            exact hz _ _ _ (R3.alloc hw) (s13.trans sm) ⟨w, _, rfl, .inl upd_same, Reps.mono (Le.of_same sm) _ _ (rr.cut l u)⟩
      | _ => cases ef
    · cases hc
end C

set_option maxRecDepth 100000
set_option maxHeartbeats 4000000
namespace C
open PySem L2
/-! ### {k: v, ..} with ints and texts as keys -/
def mergeD (l more : List (Key × D)) : List (Key × D) := more.foldl (fun acc kv => putD acc kv.1 kv.2) l
theorem RepK.merge {K : Fg} {G : Hp} : ∀ {more : List (Key × D)} {ms : List (Key × V)} {l : List (Key × D)} {xs : List (Key × V)}, RepK K G more ms → RepK K G l xs → RepK K G (mergeD l more) (mergeK xs ms)
  | [], ms, l, xs, h, k => by cases h; exact k
  | (k', d) :: r, ms, l, xs, h, k => by
    obtain ⟨x, t, rfl, h1, h2⟩ := h
    exact RepK.merge (l := putD l k' d) (xs := putK xs k' x) h2 (k.put h1)
def evP : List (CE × CE) → List (Key × D) → Env → ER
  | [], acc, env => .ok (.dK acc) env
  | (k, v) :: r, acc, env => (k.ev env).bind fun dk e1 => match keyD dk with | none => .bad | some kk => (v.ev e1).bind fun dv e2 => evP r (acc ++ [(kk, dv)]) e2
def chkP (sc : SC) : List (CE × CE) → List (Option Expr) → List Expr → Bool
  | [], [], [] => true
  | (k, v) :: r, some e :: ks, x :: xs => k.chk sc e && (v.bor.isNone && (v.chk sc x && chkP sc r ks xs))
  | _, _, _ => false
def reqP : List (CE × CE) → Rq → Prop
  | [], _ => True
  | (k, v) :: r, z => k.req z ∧ v.req z ∧ reqP r z
def tsP (sc : SC) (K : Fg) (W : WX) (ps : List (CE × CE)) : List (TE × TE) := ps.map fun p => (tE sc K p.1.bor p.1.ev W, tE sc K p.2.bor p.2.ev W)
theorem pps_of {sc : SC} {X : Cx} {W : WX} {pos : Pos} (k : XOk sc X) (tk : Takes X W) : ∀ (ps : List (CE × CE)) (ks : List (Option Expr)) (xs : List Expr), chkP sc ps ks xs = true → reqP ps (rq X) → PPs X pos ks xs (tsP sc X.K W ps) ∧ ks.all (·.isSome) = true ∧ ks.length = xs.length ∧ ks.length = ps.length
  | [], [], [], _, _ => ⟨pps_nil, rfl, rfl, rfl⟩
  | [], [], _ :: _, h, _ => by cases h
  | [], _ :: _, _, h, _ => by cases h
  | _ :: _, [], _, h, _ => by cases h
  | _ :: _, none :: _, _, h, _ => by cases h
  | _ :: _, some _ :: _, [], h, _ => by cases h
  | (c, v) :: r, some e :: ks, x :: xs, h, q => by
    obtain ⟨h1, h⟩ := and3 h
    obtain ⟨h2, h⟩ := and3 h
    obtain ⟨h3, h4⟩ := and3 h
    obtain ⟨i1, i2, i3, i4⟩ := pps_of k tk r ks xs h4 q.2.2
    exact ⟨pps_cons (c.sound sc X e W h1 k q.1 tk) (v.sound sc X x W h3 k q.2.1 tk) i1, by rw [List.all_cons, i2]; rfl, by rw [List.length_cons, List.length_cons, i3], by rw [List.length_cons, List.length_cons, i4]⟩
theorem pairs_to {sc : SC} {K : Fg} {W : WX} {f : Fx} {L : List Addr} {σ : St} : ∀ (ps : List (CE × CE)) (acc : List (Key × D)) (accV : List (Key × V)) (G H : Hp) (env : Env) (Q : List (V × V) → Hp → Prop), ps.all (fun p => p.2.bor.isNone) = true → Rel sc K f L G H σ env → RepK K G acc accV →
    (evP ps acc env).post (fun d env' => ∀ l, d = .dK l → ∀ kvs H' G', Rel sc K f L G' H' σ env' → Same G G' → RepK K G' l (accV ++ kvs) → Q (kvs.map fun kv => (kV kv.1, kv.2)) H') (XW sc K f L G σ W) → tPairs (tsP sc K W ps) σ H Q
  | [], acc, accV, G, H, env, Q, hb, R, ra, h => h acc rfl [] H G R (Same.refl _) (by rw [List.append_nil]; exact ra)
  | (c, v) :: r, acc, accV, G, H, env, Q, hb, R, ra, h => by
    rw [List.all_cons] at hb
    obtain ⟨hb1, hb2⟩ := and3 hb
    have b2 : v.bor = none := by simpa using hb1
    refine ⟨f, L, G, env, R, ER.post_mono (ER.post_bind h) (fun dk e1 _ h x H1 G1 R1 s1 r1 => ?_) fun _ _ _ h => h⟩
    cases ek : keyD dk with
    | none => simp only [ek] at h; exact h.elim
    | some kk =>
      simp only [ek] at h
      have ex := (R1.vw r1).key ek
      refine ⟨f, L, G1, e1, R1, ER.post_mono (ER.post_bind h) (fun dv e2 _ h y H2 G2 R2 s2 r2 => ?_) (XW.mono s1)⟩
      have r2' : VRel sc K G2 σ e2 v.bor dv y := r2
      rw [b2] at r2'
      have ra2 : RepK K G2 (acc ++ [(kk, dv)]) (accV ++ [(kk, y)]) := RepK.app (RepK.mono (Le.of_same (s1.trans s2)) _ _ ra) ⟨y, [], rfl, r2', rfl⟩
      refine pairs_to r (acc ++ [(kk, dv)]) (accV ++ [(kk, y)]) G2 H2 e2 _ hb2 R2 ra2 (ER.post_mono h (fun d e3 _ h l ed kvs H' G' R' s' rk => ?_) (XW.mono (s1.trans s2)))
      have := h l ed ((kk, y) :: kvs) H' G' R' ((s1.trans s2).trans s') (by rw [← List.append_cons] at rk; simpa using rk)
      rw [ex]
      exact this
theorem XW.under {sc : SC} {K : Fg} {f : Fx} {L : List Addr} {G : Hp} {σ : St} {W : WX} {c : Str} {fs : List (Str × D)} {e : Env} {a : Addr} {o : HO} (h : XW sc K f L G σ W c fs e) (fa : f.F a = none) (la : a ∉ L) (ba : f.B a = none) (nt : ¬ isTp o) : XW sc K (f.with a o) L G σ W c fs e :=
  fun H' G' cls d R s x => h H' G' cls d (R.unguard fa la ba nt).1 s x
theorem evP_dk : ∀ (ps : List (CE × CE)) (acc : List (Key × D)) (env : Env) (d : D) (e : Env), evP ps acc env = .ok d e → ∃ l, d = .dK l ∧ l.length = acc.length + ps.length
  | [], acc, env, d, e, h => by cases h; exact ⟨acc, rfl, rfl⟩
  | (c, v) :: r, acc, env, d, e, h => by
    unfold evP at h
    cases ec : c.ev env with
    | bad => rw [ec] at h; cases h
    | exc _ _ _ => rw [ec] at h; cases h
    | ok x e1 =>
      simp only [ec, ER.bind] at h
      split at h
      · cases h
      · rename_i kk _
        cases ev : v.ev e1 with
        | bad => rw [ev] at h; cases h
        | exc _ _ _ => rw [ev] at h; cases h
        | ok y e2 =>
          simp only [ev] at h
          obtain ⟨l, h1, h2⟩ := evP_dk r _ _ _ _ h
          exact ⟨l, h1, by rw [h2, List.length_append, List.length_cons, List.length_cons, List.length_nil]; omega⟩
def CF.dct (ps : List (CE × CE)) : CF where
  chk sc e := match e with | .Dict ks xs _ => decide (0 < ps.length) && (decide (ps.length ≤ 15) && (ps.all (fun p => p.2.bor.isNone) && chkP sc ps ks xs)) | _ => false
  req := reqP ps
  pur := false
  ev env := (evP ps [] env).bind fun d e => match d with | .dK l => .ok (.dK (mergeD [] l)) e | _ => .bad
  pok h := by cases h
  sound sc X e W hc k q tk := by
    split at hc
    · obtain ⟨h1, h⟩ := and3 hc
      obtain ⟨h2, h⟩ := and3 h
      obtain ⟨h3, h4⟩ := and3 h
      obtain ⟨pp, p1, p2, p3⟩ := pps_of (pos := by assumption) k tk ps _ _ h4 q
      have l0 := of_decide_eq_true h1
      have l15 := of_decide_eq_true h2
      refine (pe_disp pp p1 p2 (fun z => by rw [z] at p3; simp at p3; omega) (by rw [p3]; exact l15)).imp fun σ H Q h => ?_
      obtain ⟨fx, L, G, env, R, h⟩ := h
      intro p hp
      obtain ⟨R1, a, o, ea, ho, ro, ga, fa, la, ba, na⟩ := R.fresh (d := .dK []) (o := .dK []) hp ⟨[], rfl, rfl⟩
      cases ea
      have R2 := R1.guard upd_same ga fa la na
      refine pairs_to ps [] [] G _ env _ h3 R2 rfl (ER.post_mono (ER.post_bind h) (fun d e1 ed h l el kvs H' G' R' s' rk => ?_) fun c fs e1 h => XW.under h fa la ba (by rintro ⟨_, z⟩; cases z))
      subst el
      obtain ⟨Ru, hH, gD, nD⟩ := R'.unguard fa la ba (by rintro ⟨_, z⟩; cases z)
      have lk : kvs.length ≤ 15 := by
        obtain ⟨l', e1', e2'⟩ := evP_dk ps [] env _ _ ed
        cases e1'
        have := RepK.length rk
        simp at this e2'
        omega
      refine ⟨hH, kvs, rfl, lk, ?_⟩
      have rm : RepK X.K G' (mergeD [] l) (mergeK [] kvs) := RepK.merge (by simpa using rk) rfl
      have Rc := Ru.chg (H' := L2.upd H' p (.dK (mergeK [] kvs))) [p] (fun b u eb nb _ => by rw [upd_ne fun q => nb (by simp [q])]; exact eb) (tabs_keep Ru.tab.tabs fun b u eb np => by
          have : b ≠ p := fun q => np (by rw [q, hH] at eb; cases eb; exact ⟨(fun _ e => by cases e), (fun _ e => by cases e)⟩)
          rw [upd_ne this]; exact eb) (fun b eb => by
          by_cases q : b = p
          · rw [q, upd_same] at eb; cases eb
          · rw [upd_ne q] at eb; exact eb) (Same.refl _) (fun b u eb => .inl eb) (fun b hb => by
          have : b = p := by simpa using hb
          subst this
          exact ⟨gD, fa, la, by rw [upd_same]; simp⟩) Ru.tab.g rfl fun j dj ej => .inl ⟨ej, fun hj b sb hb => by
            have : b = p := by simpa using hb
            subst this
            exact nD j dj hj ej sb⟩
      exact h _ _ G' Rc s' ⟨p, _, rfl, upd_same, ⟨_, rfl, rm⟩, gD, fa, la, ba, nD⟩
    · cases hc
end C

set_option maxRecDepth 100000
set_option maxHeartbeats 4000000
namespace C
open PySem L2
/-! ### d.get(k, x) -/
def dgetD : D → D → D → Option D
  | .dK l, k, d => (keyD k).map fun k => (valD l k).getD d
  | .dT l, k, d => (tkeyD k).map fun k => (valD l k).getD d
  | _, _, _ => none
theorem m2_of {X : Cx} {o e f : Expr} {m : Str} {apos cpos : Pos} (hb : notSup o = true) (h1 : notStar e = true) (h2 : notStar f = true) (hl : (apos.endLine == cpos.line) = true) : M2 X o m apos e f cpos := by
  have tr : backTo cpos (starEach [e, f] X.env) = [(false, eval e X.env), (false, eval f X.env)] := by
    rw [notStar_ok h1, notStar_ok h2]; rfl
  exact ⟨notSup_ok hb, by rw [tr]; rfl, hl, tr⟩
def CE.dget2 (o a b : CE) : CE where
  chk sc e := match e with | .Call (.Attribute x g ap) [y, z] [] cp => decide (g = "get") && (notSup x && (notStar y && (notStar z && ((ap.endLine == cp.line) && (o.bor.isNone && (a.bor.isNone && (b.bor.isNone && (o.chk sc x && (a.chk sc y && b.chk sc z))))))))) | _ => false
  req z := o.req z ∧ a.req z ∧ b.req z
  bor := none
  pur := false
  ev env := (o.ev env).bind fun x e1 => match x with
    | .dK _ => (a.ev e1).bind fun y e2 => (b.ev e2).bind fun z e3 => optE (dgetD x y z) e3
    | .dT _ => (a.ev e1).bind fun y e2 => (b.ev e2).bind fun z e3 => optE (dgetD x y z) e3
    | _ => .bad
  pok h := by cases h
  bok i h := by cases h
  sound sc X e W hc k q tk := by
    split at hc
    · rename_i x g ap y z cp
      obtain ⟨h1, h⟩ := and3 hc
      obtain ⟨h2, h⟩ := and3 h
      obtain ⟨h3, h⟩ := and3 h
      obtain ⟨h4, h⟩ := and3 h
      obtain ⟨h5, h⟩ := and3 h
      obtain ⟨h6, h⟩ := and3 h
      obtain ⟨h7, h⟩ := and3 h
      obtain ⟨h8, h⟩ := and3 h
      obtain ⟨h9, h⟩ := and3 h
      obtain ⟨h10, h11⟩ := and3 h
      rw [of_decide_eq_true h1]
      have b1 : o.bor = none := by simpa using h6
      have b2 : a.bor = none := by simpa using h7
      have b3 : b.bor = none := by simpa using h8
      refine (pe_dget2 (by have := k.un; omega) (o.sound sc X x W h9 k q.1 tk) (a.sound sc X y W h10 k q.2.1 tk) (b.sound sc X z W h11 k q.2.2 tk) (m2_of h2 h3 h4 h5)).imp fun σ H Q h => ?_
      obtain ⟨fx, L, G, env, R, h⟩ := h
      refine ⟨fx, L, G, env, R, ER.post_mono (ER.post_bind h) (fun d e1 _ h v H1 G1 R1 s1 r1 => ?_) fun _ _ _ h => h⟩
      rw [b1] at r1
      have go : ∀ p, v = .ref p → IsD H1 p → ((a.ev e1).bind fun y e2 => (b.ev e2).bind fun z e3 => optE (dgetD d y z) e3).post (fun d env' => ∀ v H' G', Rel sc X.K fx L G' H' σ env' → Same G G' → VRel sc X.K G' σ env' none d v → Q v H') (XW sc X.K fx L G σ W) →
          (∀ G3 H3 y z dy dz d', Le G3 H3 → Rep X.K G3 d v → VW X.K G3 H3 dy y → Rep X.K G3 dz z → dgetD d dy dz = some d' → ∃ oo, DGet H3 p y oo ∧ Rep X.K G3 d' (oo.getD z)) →
          ∃ a1, v = .ref a1 ∧ IsD H1 a1 ∧ tE sc X.K a.bor a.ev W σ H1 fun y H2 => tE sc X.K b.bor b.ev W σ H2 fun z H3 => ∃ oo, DGet H3 a1 y oo ∧ Q (oo.getD z) H3 := by
        intro p ev hd h look
        refine ⟨p, ev, hd, fx, L, G1, e1, R1, ER.post_mono (ER.post_bind h) (fun dy e2 _ h y H2 G2 R2 s2 r2 => ?_) (XW.mono s1)⟩
        rw [b2] at r2
        refine ⟨fx, L, G2, e2, R2, ER.post_mono (ER.post_bind h) (fun dz e3 _ h z H3 G3 R3 s3 r3 => ?_) (XW.mono (s1.trans s2))⟩
        rw [b3] at r3
        obtain ⟨d', ef, h⟩ := optE_post h
        obtain ⟨oo, g1, g2⟩ := look G3 H3 y z dy dz d' R3.le (Rep.mono (Le.of_same (s2.trans s3)) _ _ r1) ⟨R3.le, .inl (Rep.mono (Le.of_same s3) _ _ r2)⟩ r3 ef
        exact ⟨oo, g1, h _ H3 G3 R3 ((s1.trans s2).trans s3) g2⟩
      cases d with
      | dK l =>
        obtain ⟨p, xs, ev, hp, _⟩ := (R1.vw (bor := none) r1).dK
        refine go p ev (.inl ⟨xs, hp⟩) h fun G3 H3 y z dy dz d' le rd vy rz ef => ?_
        obtain ⟨kk, ek, rfl⟩ := Option.map_eq_some_iff.mp ef
        obtain ⟨p', xs', ev', hp', rk⟩ := (show VW X.K G3 H3 (.dK l) v from ⟨le, .inl rd⟩).dK
        rw [ev] at ev'
        cases ev'
        refine ⟨valV xs' kk, .inl ⟨xs', kk, hp', vy.key ek, rfl⟩, ?_⟩
        rcases rk.val kk with ⟨n1, n2⟩ | ⟨d1, v1, n1, n2, n3⟩
        · rw [n1, n2]; exact rz
        · rw [n1, n2]; exact n3
      | dT l =>
        obtain ⟨p, xs, ev, hp, _⟩ := (R1.vw (bor := none) r1).dT
        refine go p ev (.inr ⟨xs, hp⟩) h fun G3 H3 y z dy dz d' le rd vy rz ef => ?_
        obtain ⟨kk, ek, rfl⟩ := Option.map_eq_some_iff.mp ef
        obtain ⟨p', xs', ev', hp', rk⟩ := (show VW X.K G3 H3 (.dT l) v from ⟨le, .inl rd⟩).dT
        rw [ev] at ev'
        cases ev'
        obtain ⟨b', eb, hb'⟩ := vy.tkey ek
        refine ⟨valV xs' kk, .inr ⟨xs', kk, b', hp', eb, hb', rfl⟩, ?_⟩
        rcases rk.val kk with ⟨n1, n2⟩ | ⟨d1, v1, n1, n2, n3⟩
        · rw [n1, n2]; exact rz
        · rw [n1, n2]; exact n3
      | _ => exact h.elim
    · cases hc
end C

set_option maxRecDepth 100000
set_option maxHeartbeats 4000000
namespace C
open PySem L2 PyProof.Rows
/-! ### d[k], d a written dict of the module, ints or texts as keys -/
def intsB (es : List DictEntry) : Bool := es.all fun e => match e.key with | .int i _ => decide (e.hash = hashInt i) | _ => false
def KDctI (K : Fg) (a : Addr) (i : Int) (v : V) : Prop := ∃ es n u, K.lookup a = some ⟨.type "dict", none, .dict es n, #[]⟩ ∧ intsB es.toList = true ∧ findBy Value.isInt es i = some u ∧ RelV v u
theorem mapI {prog : Program} {w : World} {K : Fg} {h : Heap} {a : Addr} {es : Array DictEntry} {n : Nat} (X : K.In h) (hl : K.lookup a = some ⟨.type "dict", none, .dict es n, #[]⟩) (hk : intsB es.toList = true) : h.MapOf (intKind prog w) a (fun k => findBy Value.isInt es k) :=
  ⟨_, es, n, X _ _ hl, ⟨rfl, rfl, rfl⟩, rfl, (fun e he => by
    have := List.all_eq_true.mp hk e (Array.mem_toList_iff.mpr he)
    split at this
    · rename_i i t ek
      exact ⟨i, by rw [ek]; exact intKind_is prog w i t, of_decide_eq_true this⟩
    · cases this), fun _ => rfl⟩
def rIxI (K : Fg) : R2 := fun x y H Q => ∃ p i v, x = .ref p ∧ y = .int i ∧ KDctI K p i v ∧ Q v H
theorem ix_kint {X : Cx} : IxR X (rIxI X.K) := by
  intro value slice pins s σ H x y v u Q I rx ry h hs
  obtain ⟨p, i, r, rfl, rfl, ⟨es, n, u0, hl, hk, e, ru⟩, q⟩ := h
  obtain rfl : v = Value.ref p := rx
  obtain ⟨t, rfl⟩ := ry
  have hm := mapI (prog := X.prog) (w := X.w) I.kIn hl hk
  exact tail_any hm.typeIs slot_dict_getitem.lookup (wpAny_getItem_of (intKind_is X.prog X.w i t) hm e ⟨r, H, I.tok _, ru, q⟩) hs
/-- the table's values are texts -/
def tabV (tab : List (Key × Str)) (d : D) : Option D := match keyD d with | some k => ((tab.find? (fun p => decide (p.1 = k))).map fun p => D.str p.2) | none => none
def KRq (z : Rq) (x : Str) (tab : List (Key × Str)) : Prop := ∃ p, z.mg x = some (.ref p) ∧ ∀ e ∈ tab, match e.1 with | .inl i => KDctI z.K p i (.str e.2) | .inr y => KDct z.K z.w p y (.str e.2)
def rIxT (K : Fg) (w : World) : R2 := fun x y H Q => rIxI K x y H Q ∨ rIxD K w x y H Q
theorem ix_ktab {X : Cx} : IxR X (rIxT X.K X.w) := by
  intro value slice pins s σ H x y v u Q I rx ry h hs
  rcases h with h | h
  · exact ix_kint value slice pins s σ H x y v u Q I rx ry h hs
  · exact ix_kdict value slice pins s σ H x y v u Q I rx ry h hs
def CE.kix (x : Str) (tab : List (Key × Str)) (a : CE) : CE where
  chk sc e := match e with | .Subscript (.Name y _) i _ => decide (y = x) && (chkGl sc x && (!(x == ("__debug__" : Str)) && (notSlice i && a.chk sc i))) | _ => false
  req z := KRq z x tab ∧ a.req z
  bor := none
  pur := a.pur
  ev env := (a.ev env).bind fun d e => optE (tabV tab d) e
  pok := bind_pur1
  bok i h := by cases h
  sound sc X e W hc k q tk := by
    split at hc
    · obtain ⟨h1, h⟩ := and3 hc
      obtain ⟨h2, h⟩ := and3 h
      obtain ⟨h3, h⟩ := and3 h
      obtain ⟨h4, h5⟩ := and3 h
      obtain ⟨⟨p, hm, ht⟩, qa⟩ := q
      rw [of_decide_eq_true h1]
      refine (pe_ix ix_ktab (pe_glob (v := .ref p) (chkGl_ok h2 k) hm rfl (by simpa using h3)) (a.sound sc X _ W h5 k qa tk) (notSlice_ok h4)).imp fun σ H Q h => ?_
      obtain ⟨fx, L, G, env, R, h⟩ := h
      refine ⟨fx, L, G, env, R, ER.post_mono (ER.post_bind h) (fun d e1 _ h v H1 G1 R1 s1 r1 => ?_) fun _ _ _ h => h⟩
      obtain ⟨d', ef, hz⟩ := optE_post h
      clear h
      unfold tabV at ef
      split at ef
      · rename_i kk ek
        obtain ⟨en, e1, rfl⟩ := Option.map_eq_some_iff.mp ef
        have hk0 := List.find?_some e1
        have hk : en.1 = kk := of_decide_eq_true hk0
        have hx := (R1.vw r1).key ek
        have := ht en (List.mem_of_find?_eq_some e1)
        rw [hk] at this
        cases kk with
        | inl i => exact .inl ⟨p, i, _, rfl, hx, this, hz _ H1 G1 R1 s1 rfl⟩
        | inr y => exact .inr ⟨p, y, _, rfl, hx, this, hz _ H1 G1 R1 s1 rfl⟩
      · cases ef
    · cases hc
end C

set_option maxRecDepth 100000
set_option maxHeartbeats 4000000
namespace C
open PySem L2 ClX
/-! ### C.m(..), m a classmethod -/
/-- a classmethod as the caller knows it: its def gets the class first -/
def CmRq (r : Rq) (c m : Str) (n : Nat) (rf : List Nat) (fr : Bool) (dds : List D) (F : List D → FR) : Prop := ∃ k mc p g fd ps dvs ds, FnOk r.prog r.w r.K r.mg r.base (L2.CX r.prog r.w) k g fd ps (lift r.K n rf fr F) ∧ Room k r.A ∧ r.mg c = some (.ref (ga r.K c)) ∧
  CRead r.K (ga r.K c) mc ∧ CMet r.K (ga r.K c) mc m p g ∧ Binds r.K fd ps ds ∧ Vals dvs ds ∧ ∀ G, Reps r.K G dds dvs
def tCm (C : Addr) (sp : Sp) (dvs : List V) (E : St → XK) (t : TA) : TE := fun σ H Q => t σ H fun vs H2 => sp (.ref C :: (vs ++ dvs)) H2 Q (E σ)
theorem pe_cm {X : Cx} {T : CXT} {k : Nat} {C p g : Addr} {mc : Value} {fd : FuncData} {ps : List Str} {sp : Sp} {dvs : List V} {ds : List Value} {E : St → XK} {x m : Str} {pos apos xp : Pos} {e : Expr} {es : List Expr} {t : TA} (r : CRead X.K C mc) (c : CMet X.K C mc m p g) (F : FnOk X.prog X.w X.K X.mg X.base T k g fd ps sp) (hr : Room k X.A) (hb : Binds X.K fd ps ds) (hd : Vals dvs ds)
    (hx : ∀ σ, PassesAt T X σ (E σ)) (hg : Gl X x) (hm : X.mg x = some (.ref C)) (hdb : (x == ("__debug__" : Str)) = false) (ha : PA X (e :: es) t) (g2 : (e :: es).all notStar = true) (g3 : (e :: es).length < 30) (g4 : (apos.endLine == pos.line) = true) :
    PE X (.Call (.Attribute (.Name x xp) m apos) (e :: es) [] pos) (tCm C sp dvs E t) := by
  refine ⟨fun pins s σ H Q I h => PySem.W.methodCall_KW (ld_glob I hg hm ?_ hdb) (eval_meth rfl g2 g3 g4)⟩
  refine getmethcm_ok I r c fun s2 I2 => ?_
  rw [List.all_cons] at g2
  refine callwith_cm I2 (base_none I (Nat.le_refl _)) c.fi (thn (ha.run pos _ s2 σ H _ I2 h) fun us s3 z => ?_) (notStar_ok (and3 g2).1) (nostar_any (and3 g2).2)
  obtain ⟨vs, H2, I3, rv, q2⟩ := z
  refine ⟨⟨pin_at I3, I3.kIn⟩, ?_⟩
  have rv2 : Vals (V.ref C :: (vs ++ dvs)) (Value.ref C :: (us ++ ds)) := .cons rfl (rv.append hd)
  have ln : (Value.ref C :: us ++ ds).length = ps.length := by
    have e := F.len _ _ _ _ q2
    rw [rv2.length] at e
    exact e
  have I4 := unpin I3
  have bt := hb s3 (Value.ref C :: us) I4.kIn ln
  have go := F.run X.A X.stack s3 H2 ⟨Value.ref C :: us, []⟩ (Value.ref C :: (us ++ ds)) _ _ (E σ) hr I4.env0 bt rv2 q2
  refine wpAny_call (PySem.W.method_call (pin_at I3) (codeAny_mono go fun r s' z => ?_))
  match r, z with
  | .error e, z => exact hx σ pins _ _ e s' I4 z
  | .ok (.ret u), z => exact I4.after z
  | .ok .next, z => exact z.elim
  | .ok .brk, z => exact z.elim
  | .ok .cont, z => exact z.elim
def chkCm (c m : Str) (n : Nat) (dds : List D) (r : CC) (sc : SC) (e : Expr) : Bool := match e with
  | .Call (.Attribute (.Name x _) y ap) (e :: es) [] p => decide (x = c) && (decide (y = m) && (chkGl sc c && (!(c == ("__debug__" : Str)) && (decide ((e :: es).length < 30) && ((ap.endLine == p.line) && (decide ((slR (none :: r.sl)).Nodup) && (decide ((none :: r.sl).length + dds.length = n) && r.chk sc (e :: es))))))))
  | _ => false
def evCm (c : Str) (F : List D → FR) (dds : List D) (r : CC) (env : Env) : ER := (r.ev env).bind fun ds e => evCall F dds (none :: r.sl) (.gl c :: ds) e
theorem cm_to {sc : SC} {X : Cx} {e : Expr} {c m : Str} {n : Nat} {fr : Bool} {dds : List D} {F : List D → FR} {r : CC} {W : WX} (hc : chkCm c m n dds r sc e = true) (k : XOk sc X) (q : CmRq (rq X) c m n (posR 0 (none :: r.sl)) fr dds F) (qr : r.req (rq X)) (tk : Takes X W) :
    PE X e (fun σ H Q => ∃ f L G env, Rel sc X.K f L G H σ env ∧ (evCm c F dds r env).post (fun d env' => ∀ v H' G', Rel sc X.K f L G' H' σ env' → Same G G' → (if fr = true then FrRel sc X.K f L G' H' σ env' d v else Rep X.K G' d v) → Q v H') (XW sc X.K f L G σ W)) := by
  unfold chkCm at hc
  split at hc
  · obtain ⟨h1, h⟩ := and3 hc
    obtain ⟨h2, h⟩ := and3 h
    obtain ⟨h3, h⟩ := and3 h
    obtain ⟨h4, h⟩ := and3 h
    obtain ⟨h5, h⟩ := and3 h
    obtain ⟨h6, h⟩ := and3 h
    obtain ⟨h7, h⟩ := and3 h
    obtain ⟨h8, h9⟩ := and3 h
    have ex := of_decide_eq_true h1
    have ey := of_decide_eq_true h2
    subst ex ey
    obtain ⟨kk, mc, p, g, fd, ps, dvs, dsv, Fk, hr, hm, cr, cm, hb, hv, hd⟩ := q
    refine (pe_cm cr cm Fk hr hb hv (fun σ => passAt tk σ) (chkGl_ok h3 k) hm (by simpa using h4) (r.sound sc X _ W h9 k qr tk) (r.star sc _ h9) (of_decide_eq_true h5) h6).imp fun σ H Q h => ?_
    obtain ⟨fx, L, G, env, R, h⟩ := h
    refine ⟨fx, L, G, env, R, AR.post_mono (AR.post_bind h) (fun ds e1 _ h vs H1 G1 R1 s1 ar => ?_) fun _ _ _ h => h⟩
    exact call_to (ds := .gl _ :: ds) (vs := .ref (ga X.K _) :: vs) R1 ⟨_, vs, rfl, rfl, ar⟩ (of_decide_eq_true h7) hd (of_decide_eq_true h8) s1 h
  · cases hc
def CE.cmeth (c m : Str) (n : Nat) (dds : List D) (F : List D → FR) (r : CC) : CE where
  chk := chkCm c m n dds r
  req z := CmRq z c m n (posR 0 (none :: r.sl)) false dds F ∧ r.req z
  bor := none
  pur := false
  ev := evCm c F dds r
  pok h := by cases h
  bok i h := by cases h
  sound sc X e W hc k q tk := (cm_to hc k q.1 q.2 tk).imp fun σ H Q h => h
def CF.cmeth (c m : Str) (n : Nat) (dds : List D) (F : List D → FR) (r : CC) : CF where
  chk := chkCm c m n dds r
  req z := CmRq z c m n (posR 0 (none :: r.sl)) true dds F ∧ r.req z
  pur := false
  ev := evCm c F dds r
  pok h := by cases h
  sound sc X e W hc k q tk := (cm_to hc k q.1 q.2 tk).imp fun σ H Q h => h
end C

set_option maxRecDepth 100000
set_option maxHeartbeats 4000000
namespace C
open PySem L2
/-! ### cls(..), cls a name that holds the class c -/
theorem pe_mkV {sc : SC} {X : Cx} {T : CXT} {k i : Nat} {f Cl : Addr} {fd : FuncData} {ps : List Str} {sp : Sp} {dvs : List V} {dv : List Value} {E : St → XK} {y : Str} {yp : Pos} {es : List Expr} {t : TA} {pos : Pos} (hy : chkVar sc i y = true) (xk : XOk sc X)
    (M : Mk X.K Cl f) (F : FnOk X.prog X.w X.K X.mg X.base T k f fd ps sp) (hr : Room (k + 1) X.A) (hb : Binds X.K fd ps dv) (hd : Vals dvs dv) (hx : ∀ σ, PassesAt T X σ (E σ)) (ha : PA X es t) (h0 : es = [] → ∀ σ H Q, t σ H Q → Q [] H) (ns : es.all notStar = true) :
    PE X (.Call (.Name y yp) es [] pos) (fun σ H Q => σ[i]? = some (some (.ref Cl)) ∧ tMk Cl sp dvs E t σ H Q) := by
  refine ⟨fun pins s σ H Q I ⟨hs, h⟩ => ?_⟩
  refine wpAny_Call_Name_kw (thn ((chkVar_ok (pos := yp) hy xk).run pins s σ H (fun v H1 => v = .ref Cl ∧ H1 = H) I ⟨.ref Cl, hs, rfl, rfl⟩) fun u s1 ⟨v, H1, I1, r1, ev, eH⟩ => ?_)
  subst ev
  subst eH
  cases r1
  cases es with
  | nil => exact PySem.W.callWith_K0 I1.kIn M.kp (run_mk (us := []) M F hr hb hd (hx σ) I1 .nil (h0 rfl σ _ _ h))
  | cons e es =>
    rw [List.all_cons] at ns
    refine PySem.W.callWith_K (h₀ := X.base) I.ok.mod.kin M.kp (thn (ha.run pos pins s1 σ _ _ I1 h) fun us s2 z => ?_) (notStar_ok (and3 ns).1) (nostar_any (and3 ns).2)
    obtain ⟨vs, H2, I2, rv, q2⟩ := z
    exact ⟨I2.kIn, run_mk M F hr hb hd (hx σ) I2 rv q2⟩
def evMkV (c : Str) (i : Nat) (F : List D → FR) (dds : List D) (r : CC) (env : Env) : ER := match env[i]? with
  | some (some (.gl x)) => if x = c then (r.ev env).bind fun ds e => evMk c F dds r.sl ds e else .bad
  | _ => .bad
def CF.makeV (c : Str) (i n : Nat) (dds : List D) (F : List D → FR) (r : CC) (em : EmptyOk r) : CF where
  chk sc e := match e with | .Call (.Name y _) es [] _ => chkVar sc i y && (!(sc.ow.contains i) && (decide ((slR r.sl).Nodup) && (decide (r.sl.length + 1 + dds.length = n) && r.chk sc es))) | _ => false
  req z := MkRq z c n (mkRf r.sl) dds F ∧ r.req z
  pur := false
  ev := evMkV c i F dds r
  pok h := by cases h
  sound sc X e W hc k q tk := by
    split at hc
    · obtain ⟨h1, h⟩ := and3 hc
      obtain ⟨h2, h⟩ := and3 h
      obtain ⟨h3, h⟩ := and3 h
      obtain ⟨h4, h5⟩ := and3 h
      obtain ⟨⟨kk, f, fd, ps, dvs, dsv, Fk, hr, M, hb, hv, hd⟩, qr⟩ := q
      have no : i ∉ sc.ow := by simpa using h2
      refine (pe_mkV h1 k M Fk hr hb hv (fun σ => passAt tk σ) (r.sound sc X _ W h5 k qr tk) (fun ee σ H Q t => em sc _ h5 ee X.K W σ H Q t) (r.star sc _ h5)).imp fun σ H Q h => ?_
      obtain ⟨fx, L, G, env, R, h⟩ := h
      unfold evMkV at h
      split at h
      · rename_i x ei
        split at h
        · rename_i ex
          subst ex
          obtain ⟨v, h6, h7⟩ := R.frz i _ no ei
          have h7 : v = .ref (ga X.K x) := h7
          subst h7
          refine ⟨h6, fx, L, G, env, R, AR.post_mono (AR.post_bind h) (fun ds e1 _ h vs H1 G1 R1 s1 ar y dx hx hdx hne => ?_) fun _ _ _ h => h⟩
          exact mk_to R1 ar (of_decide_eq_true h3) hd (of_decide_eq_true h4) s1 hx hdx hne h
        · exact h.elim
      · exact h.elim
    · cases hc
end C

set_option maxRecDepth 100000
set_option maxHeartbeats 4000000
namespace C
open PySem L2 ClX
/-! ### defs at any address of the written part -/
structure DefG where
  ad : Fg → Addr
  name : Str
  qual : Str
  params : Arguments
  body : List Stmt
  scope : Scope
  dfl : List He.Dv := []
def fnWA (K : Fg) (a : Addr) : He.FnW := match K.lookup a with
  | some ⟨_, _, .func fd, _⟩ => some (fd.name, fd.qualname, fd.params, fd.body, fd.scope, fd.globals, fd.closure, fd.builtins)
  | _ => none
def DefG.val (d : DefG) : He.FnW := some (d.name, d.qual, d.params, .stmts d.body, d.scope, mainGlobals, [], builtinsNs)
def DefG.dvs (K : Fg) (d : DefG) : List V := d.dfl.map (He.Dv.v K)
def DefG.ok (K : Fg) (d : DefG) : Bool := PySem.W.keepIn K (.ref (d.ad K)) && (match K.lookup (d.ad K) with
  | some ⟨_, _, .func fd, _⟩ => PySem.W.codeIn K fd.code d.qual && He.dflB K fd.defaults (d.dvs K)
  | _ => false)
abbrev FunG (K : Fg) (d : DefG) (fd : FuncData) : Prop := FunD K d.name d.qual d.params d.body d.scope (d.dvs K) [] (d.ad K) fd
theorem DefG.funD {K : Fg} {d : DefG} (e : fnWA K (d.ad K) = d.val) (c : d.ok K = true) : ∃ fd, FunG K d fd := by
  obtain ⟨kp, c2⟩ := and3 c
  unfold fnWA at e
  cases q : K.lookup (d.ad K) with
  | none => rw [q] at c2; cases c2
  | some o =>
    obtain ⟨oc, od, dt, osl⟩ := o
    rw [q] at c2 e
    cases dt with
    | func fd =>
      obtain ⟨n1, n2, n3, n4, n5, n6, n7, n8, n9, n10, n11, n12, n13, n14, n15⟩ := fd
      have e2 : (some (n1, n2, n3, n4, n5, n6, n7, n15) : He.FnW) = some (d.name, d.qual, d.params, .stmts d.body, d.scope, mainGlobals, [], builtinsNs) := e
      simp only [Option.some.injEq, Prod.mk.injEq] at e2
      obtain ⟨h1, h2, h3, h4, h5, h6, h7, h8⟩ := e2
      subst h1 h2 h3 h4 h5 h6 h7 h8
      have c3 : (PySem.W.codeIn K n13 d.qual && He.dflB K n8 (d.dvs K)) = true := c2
      obtain ⟨k1, k3⟩ := and3 c3
      exact ⟨_, ⟨oc, od, n8, n9, n10, n11, n12, n13, n14, osl, rfl, q, k1, He.dflB_ok k3, .inl rfl⟩, kp⟩
    | _ => cases c2
/-! ### the Hook -/
structure Hd (fa : List He.Fa) (ts : List He.Tab) (tf : List He.Defn) (ex : Fg → Bool) (gn : List DefG) (w : World) (h : Heap) (K : Fg) : Prop where
  c : He.SaysX fa [] ts tf ex w h K
  g1 : (gn.all fun d => d.ok K) = true
  g2 : (gn.map fun d => fnWA K (d.ad K)) = gn.map DefG.val
/-- what is looked at: what the module's names reach in n steps, and the interpreter's own switches -/
def asC (g : Addr → Option Obj) (n : Nat) : List Addr := He.asD g n ++ [cStatics]
def frC (g : Addr → Option Obj) (n : Nat) : Fg := He.frT g (asC g n)
def obsXC (n : Nat) (fa : List He.Fa) (ts : List He.Tab) (tf : List He.Defn) (ex : Fg → Bool) (g : Addr → Option Obj) : He.AlX := (He.obsT fa [] ts (frC g n), ex (frC g n) && He.tabsB g tf (frC g n))
theorem saysXC {n : Nat} {fa : List He.Fa} {ts : List He.Tab} {tf : List He.Defn} {ex : Fg → Bool} {w : World} {h : Heap} (e : obsXC n fa ts tf ex h.get? = He.valX [] ts w) : He.SaysX fa [] ts tf ex w h (frC h.get? n) := by
  have e1 : He.obsT fa [] ts (frC h.get? n) = He.valT [] ts w := congrArg (fun z : He.AlX => z.1) e
  have e2 : (ex (frC h.get? n) && He.tabsB h.get? tf (frC h.get? n)) = true := congrArg (fun z : He.AlX => z.2) e
  obtain ⟨g1, g2⟩ := and3 e2
  have key : ∀ p ∈ tf, PySem.W.codeHdIn (frC h.get? n) (He.cT (frC h.get? n) p).1 (He.cT (frC h.get? n) p).2 = true ∧ ∃ o, h.get? (He.cT (frC h.get? n) p).2 = some o ∧ He.emptyTab o = true := fun p hp => by
    obtain ⟨g3, g4⟩ := and3 (List.all_eq_true.mp g2 p hp)
    refine ⟨g3, ?_⟩
    cases q : h.get? (He.cT (frC h.get? n) p).2 with
    | none => rw [q] at g4; cases g4
    | some o => rw [q] at g4; exact ⟨o, rfl, g4⟩
  refine ⟨e1, g1, fun p hp => (key p hp).1, fun p hp => ?_, fun p hp => ?_⟩
  · obtain ⟨_, o, q, z⟩ := key p hp
    exact He.frT_none q z
  · obtain ⟨_, o, q, z⟩ := key p hp
    rw [q, He.emptyTab_eq z]
abbrev AlC : Type := He.AlX × (Bool × List He.FnW)
def obsC (n : Nat) (fa : List He.Fa) (ts : List He.Tab) (tf : List He.Defn) (ex : Fg → Bool) (gn : List DefG) (g : Addr → Option Obj) : AlC :=
  (obsXC n fa ts tf ex g, ((gn.all fun d => d.ok (frC g n)), gn.map fun d => fnWA (frC g n) (d.ad (frC g n))))
def hookC (n : Nat) (fa : List He.Fa) (ts : List He.Tab) (tf : List He.Defn) (ex : Fg → Bool) (gn : List DefG) : PySem.W.Hook where
  α := AlC
  obs := fun s => obsC n fa ts tf ex gn s.heap.get?
  val := fun w => (He.valX [] ts w, (true, gn.map DefG.val))
  says := fun w h => ∃ K : Fg, K.In h ∧ Hd fa ts tf ex gn w h K
  of := fun _ _ e => ⟨_, He.frT_in, saysXC (congrArg (fun z : AlC => z.1) e), congrArg (fun z : AlC => z.2.1) e, congrArg (fun z : AlC => z.2.2) e⟩
  keeps := fun _ _ _ ⟨K, hK, c⟩ k => ⟨K, PySem.W.Frag.In.keeps hK k, ⟨⟨c.c.t, c.c.more, c.c.hd, c.c.out, fun p hp => k _ _ (c.c.empty p hp)⟩, c.g1, c.g2⟩⟩
theorem obsC_eq {n : Nat} {fa : List He.Fa} {ts : List He.Tab} {tf : List He.Defn} {ex : Fg → Bool} {gn : List DefG} {g : Addr → Option Obj} {s : Shared} (h : ∀ a, g a = s.heap.get? a) : obsC n fa ts tf ex gn g = (hookC n fa ts tf ex gn).obs s := by
  have e : g = s.heap.get? := funext h
  rw [e]; rfl
/-! ### facts as Bools -/
def oexB (K : Fg) (c : Addr) : Bool := (match K.lookup c with
  | some ⟨.type t, _, .cls ⟨_, _, .ref c' :: bm, _, _, true, _, _, _, _, false⟩, ⟨[_, _, _, _, some (.builtin b), _]⟩⟩ => decide (t = "type") && (decide (c' = c) && (PySem.HandSPX.refsVE bm && decide (b = "ValueError.__new__")))
  | _ => false) && (decide (PySem.W.findIn K (.ref c) "__setattr__" = some (some (.builtin "object.__setattr__"))) && (decide (PySem.W.subIn K (.ref c) (.type "BaseException") = some true) && (decide (PySem.W.typeIn K (.ref c) = some (.type "type")) && PySem.W.keepIn K (.ref c))))
theorem oexB_ok {K : Fg} {c : Addr} (h : oexB K c = true) : OexC K c := by
  obtain ⟨h1, h⟩ := and3 h
  obtain ⟨h2, h⟩ := and3 h
  obtain ⟨h3, h⟩ := and3 h
  obtain ⟨h4, h5⟩ := and3 h
  refine ⟨?_, of_decide_eq_true h2, of_decide_eq_true h3, of_decide_eq_true h4, h5⟩
  split at h1
  · rename_i t dd nm bs c' bm N q sn sub ab col k0 k1 k2 k3 b k5 lk
    obtain ⟨g1, g⟩ := and3 h1
    obtain ⟨g2, g⟩ := and3 g
    obtain ⟨g3, g4⟩ := and3 g
    have e1 := of_decide_eq_true g1
    have e2 := of_decide_eq_true g2
    have e4 := of_decide_eq_true g4
    subst e1 e2 e4
    exact ⟨nm, q, N, bs, bm, sn, sub, ab, col, dd, k0, k1, k2, k3, k5, lk, g3⟩
  · cases h1
def inB (P : Program) (K : Fg) (c f : Addr) : Bool := oexB K c && (decide (PySem.W.findIn K (.ref c) "__init__" = some (some (.ref f))) && (decide (PySem.W.typeIn K (.ref f) = some (.type "function")) && (decide (PySem.W.ks_superIn K c c "__init__" = some (some (.builtin "ValueError.__init__"))) &&
  (decide (PySem.W.subIn K (.ref c) (.type "ValueError") = some true) && (decide (PySem.W.nsIn K cStatics "thirdparty.any" = some none) && (decide (PySem.W.mroIn K c (.ref c) = some true) && !(P.main.scope.names.lookup ("super" : Str)).isSome))))))
theorem inB_ok {P : Program} {K : Fg} {c f : Addr} (h : inB P K c f = true) : InC P K c f := by
  obtain ⟨h1, h⟩ := and3 h
  obtain ⟨h2, h⟩ := and3 h
  obtain ⟨h3, h⟩ := and3 h
  obtain ⟨h4, h⟩ := and3 h
  obtain ⟨h5, h⟩ := and3 h
  obtain ⟨h6, h⟩ := and3 h
  obtain ⟨h7, h8⟩ := and3 h
  exact ⟨oexB_ok h1, of_decide_eq_true h2, of_decide_eq_true h3, of_decide_eq_true h4, of_decide_eq_true h5, of_decide_eq_true h6, of_decide_eq_true h7, by simpa using h8⟩
def excB (K : Fg) (c : Addr) : Bool := decide (PySem.W.findIn K (.ref c) "__getattribute__" = some (some (.builtin "BaseException.__getattribute__"))) && (decide (PySem.W.findIn K (.ref c) "__getattr__" = some none) && (decide (PySem.W.subIn K (.ref c) (.type "BaseException") = some true) && (PySem.W.hasDictIn K c &&
  (decide (PySem.W.findIn K (.ref c) "__class__" = some (some (.builtin "object.__class__"))) && (decide (PySem.W.specialIn K (.builtin "object.__class__") "__get__" = some (some (.builtin "getset_descriptor.__get__"))) && (decide (PySem.W.takesIn K (.builtin "object.__class__") = some true) && decide (PySem.W.mroIn K c (.type "object") = some true)))))))
theorem excB_ok {K : Fg} {c : Addr} (h : excB K c = true) : ExcC K c := by
  obtain ⟨h1, h⟩ := and3 h
  obtain ⟨h2, h⟩ := and3 h
  obtain ⟨h3, h⟩ := and3 h
  obtain ⟨h4, h⟩ := and3 h
  obtain ⟨h5, h⟩ := and3 h
  obtain ⟨h6, h⟩ := and3 h
  obtain ⟨h7, h8⟩ := and3 h
  exact ⟨of_decide_eq_true h1, of_decide_eq_true h2, of_decide_eq_true h3, h4, of_decide_eq_true h5, of_decide_eq_true h6, of_decide_eq_true h7, of_decide_eq_true h8⟩
def clsB (K : Fg) (c : Addr) : Bool := PySem.W.plainGet K c Str.empty && (PySem.W.hasDictIn K c && (PySem.W.plainOver K c && decide (PySem.W.findIn K (.ref c) "__setattr__" = some (some (.builtin "object.__setattr__")))))
theorem clsB_ok {K : Fg} {c : Addr} (h : clsB K c = true) : Cls K c := by
  obtain ⟨h1, h⟩ := and3 h
  obtain ⟨h2, h⟩ := and3 h
  obtain ⟨h3, h4⟩ := and3 h
  exact ⟨h1, h2, h3, of_decide_eq_true h4⟩
def insB (K : Fg) (c : Addr) : Bool := clsB K c && (decide (PySem.W.findIn K (.ref c) "__class__" = some (some (.builtin "object.__class__"))) && (decide (PySem.W.specialIn K (.builtin "object.__class__") "__get__" = some (some (.builtin "getset_descriptor.__get__"))) && (decide (PySem.W.takesIn K (.builtin "object.__class__") = some true) && decide (PySem.W.mroIn K c (.type "object") = some true))))
theorem insB_ok {K : Fg} {c : Addr} (h : insB K c = true) : InsC K c := by
  obtain ⟨h1, h⟩ := and3 h
  obtain ⟨h2, h⟩ := and3 h
  obtain ⟨h3, h⟩ := and3 h
  obtain ⟨h4, h5⟩ := and3 h
  exact ⟨clsB_ok h1, of_decide_eq_true h2, of_decide_eq_true h3, of_decide_eq_true h4, of_decide_eq_true h5⟩
/-- the def in the record at p (a property, a classmethod) -/
def recG (K : Fg) (p : Addr) (T : String) : Addr := match PySem.W.recIn K p T with
  | some (.ref g :: _) => g
  | _ => 0
def prA (c f : Str) (K : Fg) : Addr := recG K (He.ma K (ga K c) f) "property"
def cmA (c f : Str) (K : Fg) : Addr := recG K (He.ma K (ga K c) f) "classmethod"
def recB (K : Fg) (p : Addr) (T : String) : Bool := match PySem.W.recIn K p T with
  | some (.ref _ :: _) => true
  | _ => false
theorem recB_ok {K : Fg} {p : Addr} {T : String} (h : recB K p T = true) : ∃ rest, PySem.W.recIn K p T = some (.ref (recG K p T) :: rest) := by
  unfold recB at h
  unfold recG
  split at h
  · rename_i g r e
    rw [e]
    exact ⟨_, rfl⟩
  · cases h
def propB (K : Fg) (c f : Str) : Bool := clsB K (ga K c) && (decide (PySem.W.findIn K (.ref (ga K c)) f = some (some (.ref (He.ma K (ga K c) f)))) && (decide (PySem.W.specialIn K (.ref (He.ma K (ga K c) f)) "__get__" = some (some (.builtin "property.__get__"))) && (decide (PySem.W.takesIn K (.ref (He.ma K (ga K c) f)) = some true) && recB K (He.ma K (ga K c) f) "property")))
theorem propB_ok {K : Fg} {c f : Str} (h : propB K c f = true) : Cls K (ga K c) ∧ PropOf K (ga K c) f (He.ma K (ga K c) f) (prA c f K) := by
  obtain ⟨h1, h⟩ := and3 h
  obtain ⟨h2, h⟩ := and3 h
  obtain ⟨h3, h⟩ := and3 h
  obtain ⟨h4, h5⟩ := and3 h
  exact ⟨clsB_ok h1, of_decide_eq_true h2, of_decide_eq_true h3, of_decide_eq_true h4, recB_ok h5⟩
def cmB (K : Fg) (c m : Str) : Bool := PySem.W.readsIn K (ga K c) (.type "type") && (decide (PySem.W.specialIn K (.ref (ga K c)) "__getattribute__" = some (some (.builtin "type.__getattribute__"))) && ((match PySem.W.findCls K (.ref (ga K c)) (.type "type") m with
  | some (.get g a i o) => decide (g = .builtin "classmethod.__get__") && (decide (a = .ref (He.ma K (ga K c) m)) && (decide (i = .none) && decide (o = .ref (ga K c))))
  | _ => false) && (recB K (He.ma K (ga K c) m) "classmethod" && PySem.W.fnIn K (cmA c m K))))
theorem cmB_ok {K : Fg} {c m : Str} (h : cmB K c m = true) : CRead K (ga K c) (.type "type") ∧ CMet K (ga K c) (.type "type") m (He.ma K (ga K c) m) (cmA c m K) := by
  obtain ⟨h1, h⟩ := and3 h
  obtain ⟨h2, h⟩ := and3 h
  obtain ⟨h3, h⟩ := and3 h
  obtain ⟨h4, h5⟩ := and3 h
  refine ⟨⟨h1, of_decide_eq_true h2⟩, ?_, recB_ok h4, h5⟩
  split at h3
  · rename_i g a i o e
    obtain ⟨g1, g⟩ := and3 h3
    obtain ⟨g2, g⟩ := and3 g
    obtain ⟨g3, g4⟩ := and3 g
    rw [of_decide_eq_true g1, of_decide_eq_true g2, of_decide_eq_true g3, of_decide_eq_true g4] at e
    exact e
  · cases h3
inductive Fq where
  | exk (c : Str) (xs : List Str)
  | xf (c f : Str)
  | exm (c x : Str) (b : Bool)
  | isb (k : CK) (t : String) (b : Bool)
  | isc (k : CK) (c : Str) (b : Bool)
  | ise (k : CK) (c : Str) (b : Bool)
  | prop (c f : Str)
  | cm (c m : Str)
  | eqc (c : Str)
  | fld (c f : Str)
  | tabI (x : Str) (kvs : List (Int × Str))
  | tabS (x : Str) (kvs : List (Str × Str))
  | emp (a : Fg → Addr)
  | lam
  | any (f : Fg → Bool)
def tabIB (K : Fg) (a : Addr) (kvs : List (Int × Str)) : Bool := match K.lookup a with
  | some ⟨.type t, none, .dict es _, sl⟩ => decide (t = "dict") && (sl.isEmpty && (intsB es.toList && kvs.all fun p => match findBy Value.isInt es p.1 with | some u => He.relB (.str p.2) u | none => false))
  | _ => false
def tabSB (K : Fg) (a : Addr) (kvs : List (Str × Str)) : Bool := kvs.all fun p => match PySem.W.nsIn K a p.1 with | some (some u) => He.relB (.str p.2) u | _ => false
def empB (K : Fg) (a : Addr) : Bool := match K.lookup a with
  | some ⟨.type t, _, .seq its _, _⟩ => decide (t = "tuple") && its.isEmpty
  | _ => false
def Fq.ok (P : Program) (K : Fg) : Fq → Bool
  | .exk c xs => inB P K (ga K c) (He.ma K (ga K c) "__init__") && (initB P K (ga K c) (He.ma K (ga K c) "__init__") xs && decide (xs.length ≤ 900))
  | .xf c f => xfB K (ga K c) && decide (PySem.W.findIn K (.ref (ga K c)) f = some none)
  | .exm c x b => decide (PySem.W.exmOne K (.ref (ga K c)) (.ref (ga K x)) = some b)
  | .isb k t b => decide (PySem.W.kitOne K (.type t) (k.u K) = some b)
  | .isc k c b => decide (PySem.W.kitOne K (.ref (ga K c)) (k.u K) = some b) && insB K (ga K c)
  | .ise k c b => decide (PySem.W.kitOne K (.ref (ga K c)) (k.u K) = some b) && excB K (ga K c)
  | .prop c f => propB K c f
  | .cm c m => cmB K c m
  | .eqc c => decide (PySem.W.findIn K (.ref (ga K c)) "__eq__" = some (some (.ref (He.ma K (ga K c) "__eq__")))) && (PySem.W.isFn K (.ref (He.ma K (ga K c) "__eq__")) && (PySem.W.notFirst K (ga K c) (.type "str") && (PySem.W.notFirst K (ga K c) (.type "NoneType") && PySem.W.notFirst K (ga K c) (.type "tuple"))))
  | .fld c f => clsB K (ga K c) && decide (PySem.W.findIn K (.ref (ga K c)) f = some none)
  | .tabI x kvs => tabIB K (ga K x) kvs
  | .tabS x kvs => tabSB K (ga K x) kvs
  | .emp a => empB K (a K)
  | .any f => f K
  | .lam => (lamT K).all fun p => (lamT K).all fun q => !decide (p.1 = q.1) || decide (p.2 = q.2)
/-! ### the context of the defs -/
structure Zc0 (P : Program) (fa : List He.Fa) (ts : List He.Tab) (tf : List He.Defn) (fq : List Fq) (gn : List DefG) (w : World) (K : Fg) (mg : Str → Option Value) (h base : Heap) : Prop where
  X : K.In h
  G : h.Ns mainGlobals mg
  d : Hd fa ts tf (fun K => fq.all fun q => q.ok P K) gn w h K
  tb : ∀ p ∈ tf.map (He.cT K), LamX.TabB base mg p.1 p.2
section
variable {P : Program} {fa : List He.Fa} {ts : List He.Tab} {tf : List He.Defn} {fq : List Fq} {gn : List DefG} {w : World} {K : Fg} {mg : Str → Option Value} {h base : Heap} {A : Around}
theorem Zc0.fct (z : Zc0 P fa ts tf fq gn w K mg h base) (i : Nat) {f : He.Fa} (e : fa[i]? = some f) : f.ok K = true := z.d.c.t.d.fact i e
theorem Zc0.fcq (z : Zc0 P fa ts tf fq gn w K mg h base) (i : Nat) {f : Fq} (e : fq[i]? = some f) : f.ok P K = true := List.all_eq_true.mp z.d.c.more f (List.mem_of_getElem? e)
theorem Zc0.fn (z : Zc0 P fa ts tf fq gn w K mg h base) (i : Nat) {f : DefG} (e : gn[i]? = some f) : ∃ fd, FunG K f fd := by
  have e2 : (gn.map fun d => fnWA K (d.ad K))[i]? = (gn.map DefG.val)[i]? := by rw [z.d.g2]
  rw [List.getElem?_map, List.getElem?_map, e] at e2
  exact DefG.funD (Option.some.inj e2) (List.all_eq_true.mp z.d.g1 f (List.mem_of_getElem? e))
theorem Zc0.glo (z : Zc0 P fa ts tf fq gn w K mg h base) (i : Nat) (x : Str) (e : fa[i]? = some (.glo x)) : mg x = some (.ref (ga K x)) := He.glo_ok z.X z.G (z.fct i e)
theorem Zc0.free (z : Zc0 P fa ts tf fq gn w K mg h base) (i : Nat) (x : Str) (e : fa[i]? = some (.free x)) : mg x = none := He.free_ok z.X z.G (z.fct i e)
theorem Zc0.gstr (z : Zc0 P fa ts tf fq gn w K mg h base) (i : Nat) (x y : Str) (e : fa[i]? = some (.str x y)) : (CE.gstr x y).req ⟨P, w, K, mg, base, A⟩ := by
  obtain ⟨t, e⟩ := He.str_ok z.X z.G (z.fct i e)
  exact ⟨_, e, t, rfl⟩
theorem Zc0.gint (z : Zc0 P fa ts tf fq gn w K mg h base) (i : Nat) (x : Str) (y : Int) (e : fa[i]? = some (.int x y)) : (CE.gint x y).req ⟨P, w, K, mg, base, A⟩ := by
  obtain ⟨t, e⟩ := He.int_ok z.X z.G (z.fct i e)
  exact ⟨_, e, t, rfl⟩
theorem Zc0.ggl (z : Zc0 P fa ts tf fq gn w K mg h base) (i : Nat) (x : Str) (e : fa[i]? = some (.glo x)) : (CE.ggl x).req ⟨P, w, K, mg, base, A⟩ := ⟨_, z.glo i x e, rfl⟩
/-- an exception class: i its fact, j of its name, s of super -/
theorem Zc0.exk (z : Zc0 P fa ts tf fq gn w K mg h base) (hr : Room 2 A) (i : Nat) (c : Str) (xs : List Str) (e : fq[i]? = some (.exk c xs)) (j : Nat) (ej : fa[j]? = some (.glo c)) (s : Nat) (es : fa[s]? = some (.free "super")) : XRq ⟨P, w, K, mg, base, A⟩ c xs := by
  obtain ⟨h1, h⟩ := and3 (show (inB P K (ga K c) (He.ma K (ga K c) "__init__") && (initB P K (ga K c) (He.ma K (ga K c) "__init__") xs && decide (xs.length ≤ 900))) = true from z.fcq i e)
  obtain ⟨h2, h3⟩ := and3 h
  obtain ⟨fd, f1, f2⟩ := init_ok (CX := L2.CX P w) (w := w) (mg := mg) (base := base) (inB_ok h1) h2 (z.free s _ es)
  exact ⟨z.glo j _ ej, hr, of_decide_eq_true h3, _, fd, inB_ok h1, f1, f2⟩
theorem Zc0.xf (z : Zc0 P fa ts tf fq gn w K mg h base) (i : Nat) (c f : Str) (e : fq[i]? = some (.xf c f)) : XfC K (ga K c) ∧ PySem.W.findIn K (.ref (ga K c)) f = some none := by
  obtain ⟨h1, h2⟩ := and3 (show (xfB K (ga K c) && decide (PySem.W.findIn K (.ref (ga K c)) f = some none)) = true from z.fcq i e)
  exact ⟨xfB_ok h1, of_decide_eq_true h2⟩
theorem Zc0.exm (z : Zc0 P fa ts tf fq gn w K mg h base) (i : Nat) (c x : Str) (b : Bool) (e : fq[i]? = some (.exm c x b)) : PySem.W.exmOne K (.ref (ga K c)) (.ref (ga K x)) = some b := of_decide_eq_true (z.fcq i e)
theorem Zc0.isb (z : Zc0 P fa ts tf fq gn w K mg h base) (i : Nat) (k : CK) (t : String) (b : Bool) (e : fq[i]? = some (.isb k t b)) : PySem.W.kitOne K (.type t) (k.u K) = some b := of_decide_eq_true (z.fcq i e)
theorem Zc0.isc (z : Zc0 P fa ts tf fq gn w K mg h base) (i : Nat) (k : CK) (c : Str) (b : Bool) (e : fq[i]? = some (.isc k c b)) : PySem.W.kitOne K (.ref (ga K c)) (k.u K) = some b ∧ InsC K (ga K c) := by
  obtain ⟨h1, h2⟩ := and3 (z.fcq i e)
  exact ⟨of_decide_eq_true h1, insB_ok h2⟩
theorem Zc0.ise (z : Zc0 P fa ts tf fq gn w K mg h base) (i : Nat) (k : CK) (c : Str) (b : Bool) (e : fq[i]? = some (.ise k c b)) : PySem.W.kitOne K (.ref (ga K c)) (k.u K) = some b ∧ ExcC K (ga K c) := by
  obtain ⟨h1, h2⟩ := and3 (z.fcq i e)
  exact ⟨of_decide_eq_true h1, excB_ok h2⟩
theorem Zc0.fld (z : Zc0 P fa ts tf fq gn w K mg h base) (i : Nat) (c f : Str) (e : fq[i]? = some (.fld c f)) : FldRq ⟨P, w, K, mg, base, A⟩ c f := by
  obtain ⟨h1, h2⟩ := and3 (z.fcq i e)
  have e2 := of_decide_eq_true h2
  exact ⟨clsB_ok h1, e2⟩
theorem tabIB_ok {a : Addr} {kvs : List (Int × Str)} (h : tabIB K a kvs = true) (i : Int) (y : Str) (hm : (i, y) ∈ kvs) : KDctI K a i (.str y) := by
  unfold tabIB at h
  split at h
  · rename_i t es n sl lk
    obtain ⟨h1, h⟩ := and3 h
    obtain ⟨h2, h⟩ := and3 h
    obtain ⟨h3, h4⟩ := and3 h
    have e1 := of_decide_eq_true h1
    have e2 := Array.isEmpty_iff.mp h2
    subst e1 e2
    have h5 := List.all_eq_true.mp h4 _ hm
    simp only at h5
    split at h5
    · rename_i u eu
      exact ⟨es, n, u, lk, h3, eu, He.relB_ok h5⟩
    · cases h5
  · cases h
theorem Zc0.tabI (z : Zc0 P fa ts tf fq gn w K mg h base) (i j : Nat) (x : Str) (kvs : List (Int × Str)) (e : fq[i]? = some (.tabI x kvs)) (ej : fa[j]? = some (.glo x)) : KRq ⟨P, w, K, mg, base, A⟩ x (kvs.map fun p => (.inl p.1, p.2)) :=
  ⟨_, z.glo j x ej, fun p hp => by
    obtain ⟨q, hq, rfl⟩ := List.mem_map.mp hp
    exact tabIB_ok (z.fcq i e) q.1 q.2 hq⟩
theorem Zc0.tabS (z : Zc0 P fa ts tf fq gn w K mg h base) (i j : Nat) (x : Str) (kvs : List (Str × Str)) (e : fq[i]? = some (.tabS x kvs)) (ej : fa[j]? = some (.glo x)) (t : Nat) (ks : List Str) (et : ts[t]? = some ((fun K => ga K x), ks)) : KRq ⟨P, w, K, mg, base, A⟩ x (kvs.map fun p => (.inr p.1, p.2)) := by
  refine ⟨_, z.glo j x ej, fun p hp => ?_⟩
  obtain ⟨q, hq, rfl⟩ := List.mem_map.mp hp
  obtain ⟨es, n, h1, h2, _⟩ := z.d.c.t.tab t et
  have h5 := List.all_eq_true.mp (show tabSB K (ga K x) kvs = true from z.fcq i e) _ hq
  split at h5
  · rename_i u eu
    exact ⟨es, n, u, h1, h2, eu, He.relB_ok h5⟩
  · cases h5
theorem Zc0.emp (z : Zc0 P fa ts tf fq gn w K mg h base) (i : Nat) (a : Fg → Addr) (e : fq[i]? = some (.emp a)) (G : Hp) : Rep K G (.tup []) (.ref (a K)) := by
  have h1 : empB K (a K) = true := z.fcq i e
  unfold empB at h1
  split at h1
  · rename_i t od its n sl lk
    obtain ⟨h2, h3⟩ := and3 h1
    have e2 := of_decide_eq_true h2
    have e3 := Array.isEmpty_iff.mp h3
    subst e2 e3
    exact ⟨a K, [], rfl, .inr ⟨rfl, .inr ⟨_, #[], n, lk, rfl, rfl, by decide, .nil⟩⟩, rfl⟩
  · cases h1
/-! ### a def and its promise -/
def OkG (P : Program) (w : World) (K : Fg) (mg : Str → Option Value) (base : Heap) (d : DefG) (k : Nat) (ps : List Str) (n : Nat) (rf : List Nat) (fr : Bool) (F : List D → FR) : Prop :=
  ∃ fd, FunG K d fd ∧ FnOk P w K mg base (L2.CX P w) k (d.ad K) fd ps (lift K n rf fr F)
theorem OkG.of {d : DefG} {N ps : List Str} {k : Nat} (F : ∃ fd, FunG K d fd) (S : FnScope N ps d.scope) (ow rf : List Nat) (fr : Bool) (b : CB)
    (hrf : rf.all (fun p => ow.contains p && decide (p < ps.length)) = true) (hps : (List.range ps.length).all (fun i => !ow.contains i || rf.contains i) = true) (hN : ps.length ≤ N.length) (how : ow.all (fun p => decide (p < N.length)) = true)
    {df : Option Str} (hc : b.chk (scOf N d.scope ow rf fr df) d.body = true) (hq : ∀ A, Room k A → b.req ⟨P, w, K, mg, base, A⟩) (hdf : ∀ x, df = some x → d.ad K = He.fAd K (x, none) ∧ d.qual = x) : OkG P w K mg base d (k + 1) ps ps.length rf fr (runF b N.length rf fr) := by
  obtain ⟨fd, F⟩ := F
  exact ⟨fd, F, fn_ok F S ow rf fr b hrf hps hN how hc hq hdf⟩
/-- what fills up a call of m values: the defaults ds, as values dvs -/
def Bnd (K : Fg) (d : DefG) (ps : List Str) (dds : List D) : Prop := ∀ fd, FunG K d fd → ∃ dvs ds, Binds K fd ps ds ∧ Vals dvs ds ∧ ∀ G, Reps K G dds dvs
variable {d : DefG} {k n : Nat} {ps : List Str} {rf : List Nat} {fr : Bool} {F : List D → FR} {dds : List D}
theorem Bnd.none (hd : d.dfl = []) (h : ∀ (kV doc pm : Value) (an : Option Addr) (cdv ct : Value) (us : List Value), us.length = ps.length → bindArgs (PySem.W.fnOf d.name d.qual d.params d.body d.scope .none kV doc pm an cdv ct) ⟨us, []⟩ = pure (ps.zip us)) : Bnd K d ps [] := fun fd F => by
  unfold FunG DefG.dvs at F
  rw [hd] at F
  exact ⟨[], [], F.bindsN h, .nil, fun _ => rfl⟩
/-- m values are written, the defaults behind the first j fill up -/
theorem Bnd.some (m j : Nat) (hd : d.dfl ≠ []) (hn : m + (d.dfl.length - j) = ps.length)
    (h : ∀ (T : Addr) (kV doc pm : Value) (an : Option Addr) (cdv ct : Value) (us its : List Value), us.length = m → its.length = d.dfl.length →
      ∃ k, bindArgs (PySem.W.fnOf d.name d.qual d.params d.body d.scope (.ref T) kV doc pm an cdv ct) ⟨us, []⟩ = seqItems? (.ref T) >>= k ∧ k (some its.toArray) = pure (ps.zip (us ++ its.drop j)))
    (hv : ∀ G, Reps K G dds ((d.dvs K).drop j)) : Bnd K d ps dds := fun fd F => by
  have hd' : d.dvs K ≠ [] := fun e => hd (List.map_eq_nil_iff.mp e)
  have hl : (d.dvs K).length = d.dfl.length := List.length_map _
  obtain ⟨ds, h1, h2⟩ := F.binds1 m j hd' (by rw [hl]; exact hn) (fun T kV doc pm an cdv ct us its h1 h2 => h T kV doc pm an cdv ct us its h1 (h2.trans hl))
  exact ⟨_, ds, h2, h1, hv⟩
theorem OkG.fnRq (o : OkG P w K mg base d k ps n rf fr F) (x : Str) (hr : Room k A) (hm : mg x = some (.ref (d.ad K))) (hb : Bnd K d ps dds) : FnRq ⟨P, w, K, mg, base, A⟩ x n rf fr dds F := by
  obtain ⟨fd, f1, f2⟩ := o
  obtain ⟨dvs, ds, b1, b2, b3⟩ := hb fd f1
  exact ⟨k, d.ad K, fd, ps, dvs, ds, f2, hr, hm, f1.kp, b1, b2, b3⟩
theorem OkG.meRq (o : OkG P w K mg base d k ps n rf fr F) (c m : Str) (hr : Room k A) (hc : Cls K (ga K c)) (hm : Meth K (ga K c) m (d.ad K)) (hb : Bnd K d ps dds) : MeRq ⟨P, w, K, mg, base, A⟩ c m n rf fr dds F := by
  obtain ⟨fd, f1, f2⟩ := o
  obtain ⟨dvs, ds, b1, b2, b3⟩ := hb fd f1
  exact ⟨k, d.ad K, fd, ps, dvs, ds, f2, hr, hc, hm, b1, b2, b3⟩
theorem OkG.mkRq (o : OkG P w K mg base d k ps n rf false F) (c : Str) (hr : Room (k + 1) A) (hm : Mk K (ga K c) (d.ad K)) (hb : Bnd K d ps dds) : MkRq ⟨P, w, K, mg, base, A⟩ c n rf dds F := by
  obtain ⟨fd, f1, f2⟩ := o
  obtain ⟨dvs, ds, b1, b2, b3⟩ := hb fd f1
  exact ⟨k, d.ad K, fd, ps, dvs, ds, f2, hr, hm, b1, b2, b3⟩
theorem Reps.nil_eq {G : Hp} {dvs : List V} (h : Reps K G [] dvs) : dvs = [] := h
theorem OkG.prRq (o : OkG P w K mg base d k ps 1 [] fr F) (c f : Str) (hr : Room (k + 1) A) (hp : propB K c f = true) (ha : d.ad K = prA c f K) (hb : Bnd K d ps []) : PrRq ⟨P, w, K, mg, base, A⟩ c f fr F := by
  obtain ⟨fd, f1, f2⟩ := o
  obtain ⟨dvs, ds, b1, b2, b3⟩ := hb fd f1
  have e := Reps.nil_eq (b3 fun _ => Option.none)
  subst e
  cases b2
  obtain ⟨h1, h2⟩ := propB_ok hp
  rw [ha] at f2
  exact ⟨k, _, _, fd, ps, f2, hr, h1, h2, b1⟩
theorem OkG.cmRq (o : OkG P w K mg base d k ps n rf fr F) (c m : Str) (hr : Room k A) (hg : mg c = some (.ref (ga K c))) (hp : cmB K c m = true) (ha : d.ad K = cmA c m K) (hb : Bnd K d ps dds) : CmRq ⟨P, w, K, mg, base, A⟩ c m n rf fr dds F := by
  obtain ⟨fd, f1, f2⟩ := o
  obtain ⟨dvs, ds, b1, b2, b3⟩ := hb fd f1
  obtain ⟨h1, h2⟩ := cmB_ok hp
  rw [ha] at f2
  exact ⟨k, _, _, _, fd, ps, dvs, ds, f2, hr, hg, h1, h2, b1, b2, b3⟩
theorem OkG.eqRq (o : OkG P w K mg base d k ps 2 [] false F) (c : Str) (hr : Room k A) (hp : (Fq.eqc c).ok P K = true) (ha : d.ad K = He.ma K (ga K c) "__eq__") (hb : Bnd K d ps []) : EqRq ⟨P, w, K, mg, base, A⟩ c F := by
  obtain ⟨fd, f1, f2⟩ := o
  obtain ⟨dvs, ds, b1, b2, b3⟩ := hb fd f1
  have e := Reps.nil_eq (b3 fun _ => Option.none)
  subst e
  cases b2
  obtain ⟨h1, h⟩ := and3 hp
  obtain ⟨h2, h⟩ := and3 h
  obtain ⟨h3, h⟩ := and3 h
  obtain ⟨h4, h5⟩ := and3 h
  rw [ha] at f2
  exact ⟨k, _, fd, ps, f2, hr, of_decide_eq_true h1, h2, b1, h3, h4, h5⟩
theorem Zc0.tbRq (z : Zc0 P fa ts tf fq gn w K mg h base) (h1 : lamDefs.map (fun p => (p.1, (Option.none : Option Str))) = tf) (i : Nat) (e : fq[i]? = some .lam) : TbRq ⟨P, w, K, mg, base, A⟩ :=
  ⟨fun p hp => z.tb (He.cT K (p.1, Option.none)) (List.mem_map.mpr ⟨(p.1, Option.none), by rw [← h1]; exact List.mem_map.mpr ⟨p, hp, rfl⟩, rfl⟩), fun p hp q hq e1 => by
    have h3 := List.all_eq_true.mp (List.all_eq_true.mp (show ((lamT K).all fun p => (lamT K).all fun q => !decide (p.1 = q.1) || decide (p.2 = q.2)) = true from z.fcq i e) p hp) q hq
    simpa [e1] using h3⟩
end
end C

set_option maxRecDepth 100000
set_option maxHeartbeats 4000000
namespace C
open PySem L2
/-! ### str(o) by an own __str__ -/
def StrRq (r : Rq) (c : Str) (F : List D → FR) : Prop := ∃ k f fd ps, FnOk r.prog r.w r.K r.mg r.base (L2.CX r.prog r.w) k f fd ps (lift r.K 1 [] false F) ∧ Room (k + 2) r.A ∧ PySem.W.findIn r.K (.ref (ga r.K c)) "__str__" = some (some (.ref f)) ∧ PySem.W.isFn r.K (.ref f) = true ∧ Binds r.K fd ps []
def strI (c : Str) (F : List D → FR) (x : D) : Option Str := if isIns c x then (match F [x] with | .ret (.str b) [] => some b | _ => none) else none
theorem call_strI {X : Cx} {c : Str} {F : List D → FR} (q : StrRq (rq X) c F) : CallR X (.type "str") (fun xs H Q => ∃ G dx x b, xs = [x] ∧ (Le G H ∧ LamX.Tabs (lamT X.K) H ∧ noTb G) ∧ Rep X.K G dx x ∧ strI c F dx = some b ∧ ∀ H', Kp X.K H H' → Q (.str b) H') := by
  intro pins s σ H xs us Q I rx z
  obtain ⟨G, dx, x, b, rfl, ⟨le, tb0, ng⟩, r1, e, hq⟩ := z
  obtain ⟨kk, f, fd, ps, Fk, hr, hs, hf, hb⟩ := q
  unfold strI at e
  split at e
  · rename_i hi
    split at e
    · rename_i b' eF
      cases e
      obtain ⟨G1, hG1, le1, _, n1'⟩ := le.exact (K := X.K)
      have sp : lift X.K 1 [] false F [x] H (fun v H' => v = .str b ∧ Q (.str b) H') (fun _ _ _ => False) := lift_pure (ds := [dx]) rfl hG1 ⟨x, [], rfl, Rep.mono le1 _ _ r1, rfl⟩ eF tb0 (n1' ng) fun v H' G' s1 _ _ rv => ⟨rv, hq H' s1⟩
      cases dx with
      | ins c' fs =>
        have ec : c' = c := of_decide_eq_true hi
        subst ec
        obtain ⟨a, ddx, xs, rfl, ha, _⟩ := id r1
        have ha' := le.ex _ _ (notD_ins _ _ _) ha
        cases rx with
        | cons rx r0 =>
          cases rx
          cases r0
          obtain ⟨mA, J, _⟩ := ins_get I.hok ha'
          obtain ⟨od, J, _⟩ := J.look
          have hl : ([Value.ref a] ++ ([] : List Value)).length = ps.length := by
            rw [← Fk.len _ _ _ _ sp]; rfl
          refine PySem.W.kso_call (by have := hr.un; show X.A.units + 1 + 1 < cLine; change X.A.units + 16 * (kk + 2) + 200 < cLine at this; omega) I.kIn J hs hf ?_
          refine wpAny_call (codeAny_mono (Fk.run X.A.in1.in1 X.stack s H ⟨[.ref a], []⟩ [.ref a] [.ref a] _ _ hr.in1.in1 I.env0.in1.in1 (hb s [.ref a] I.kIn hl) (.cons rfl .nil) sp) fun r s' hq' => ?_)
          cases r with
          | error e =>
            obtain ⟨_, _, _, _, _, _, _, _, _, _, _, _, z⟩ := hq'
            exact z.elim
          | ok fl =>
            cases fl with
            | ret u =>
              obtain ⟨v, H', I3, rv, ev, q3⟩ := I.after hq'
              subst ev
              obtain ⟨t, rfl⟩ := rv
              exact ⟨.str b, H', I3, ⟨t, rfl⟩, q3⟩
            | next => exact False.elim hq'
            | brk => exact False.elim hq'
            | cont => exact False.elim hq'
      | _ => cases hi
    · cases e
  · cases e
def CE.strI (c : Str) (F : List D → FR) (a : CE) : CE where
  chk sc e := match e with | .Call (.Name y _) [o] [] _ => decide (y = "str") && (chkGl sc "str" && (notStar o && (a.bor.isNone && a.chk sc o))) | _ => false
  req z := z.mg "str" = none ∧ StrRq z c F ∧ a.req z
  bor := none
  pur := false
  ev env := (a.ev env).bind fun x e1 => optE ((C.strI c F x).map D.str) e1
  pok h := by cases h
  bok i h := by cases h
  sound sc X e W hc k q tk := by
    split at hc
    · rename_i y p o pos
      obtain ⟨h1, h⟩ := and3 hc
      obtain ⟨h2, h⟩ := and3 h
      obtain ⟨h3, h⟩ := and3 h
      obtain ⟨h4, h5⟩ := and3 h
      have ey := of_decide_eq_true h1
      subst ey
      have hb : a.bor = none := by simpa using h4
      refine (pe_callTy (call_strI q.2.1) (chkGl_ok h2 k) q.1 (by first | exact PyProof.Rows.boot_str | exact PyProof.Rows.Boot.str) (pa_cons (a.sound sc X _ W h5 k q.2.2 tk) pa_nil (notStar_ok h3)) (by decide) (by decide) (notStar_ok h3) (nostar_any rfl)).imp fun σ H Q h => ?_
      obtain ⟨fx, L, G, env, R, h⟩ := h
      refine ⟨fx, L, G, env, R, ER.post_mono (ER.post_bind h) (fun d e1 _ h v H1 G1 R1 s1 v1 => ?_) fun _ _ _ h => h⟩
      obtain ⟨d', ef, h⟩ := optE_post h
      obtain ⟨b, ef2, rfl⟩ := Option.map_eq_some_iff.mp ef
      rw [hb] at v1
      exact ⟨G1, d, v, b, rfl, ⟨R1.le, R1.tab.tabs, R1.tab.g⟩, v1, ef2, fun H' sm => h _ H' G1 (R1.growT sm) s1 rfl⟩
    · cases hc
theorem OkG.strRq {P : Program} {w : World} {K : Fg} {mg : Str → Option Value} {base : Heap} {A : Around} {d : DefG} {k : Nat} {ps : List Str} {F : List D → FR} (o : OkG P w K mg base d k ps 1 [] false F) (c : Str) (hr : Room (k + 2) A) (hm : Meth K (ga K c) "__str__" (d.ad K)) (hb : Bnd K d ps []) : StrRq ⟨P, w, K, mg, base, A⟩ c F := by
  obtain ⟨fd, f1, f2⟩ := o
  obtain ⟨dvs, ds, b1, b2, b3⟩ := hb fd f1
  have e := Reps.nil_eq (b3 fun _ => Option.none)
  subst e
  cases b2
  exact ⟨k, _, fd, ps, f2, hr, hm.at_, hm.fn, b1⟩
end C

set_option maxRecDepth 100000
set_option maxHeartbeats 4000000
namespace C
open PySem L2
/-! ### e[i].replace(y, z), i, y, z written -/
def replD (y z : Str) (d : D) : Option D := match d with
  | .str x => if x.length + (x.length + 1) * z.length ≤ 16777216 then some (.str (Txt.replace x y z)) else none
  | _ => none
theorem ix_tok {X : Cx} {a : Expr} {i : Int} {j : Nat} {p pos : Pos} {ta : TE} {r : R2} (hr : IxR X r) (ha : PE X a ta) {pins : List (Addr × Obj)} {s : Shared} {σ : St} {H : Hp} {Q : VK} (I : Inv X pins σ H s) (h : tOp r ta (tC (.int i)) σ H Q) :
    wpAny (model X.prog X.w) X.A (eval (.Subscript a (.Constant (.int i) j p) pos) X.env) (fun v s' => 1 ≤ s'.toks ∧ EP X pins σ Q v s') X.xe s := by
  refine PyProof.Rows.Subscript_ ?_
  refine thn (ha.run pins s σ H _ I h) fun v s1 ⟨x, H1, I1, r1, q1⟩ => ?_
  refine wpAny_Constant_int ?_
  refine wpAny_mono (wpAny_toks_of (n := 1) (by show 1 ≤ s1.toks + 1; omega) (hr a (.Constant (.int i) j p) pins _ σ H1 x (.int i) v _ Q (I1.tok _) r1 ⟨_, rfl⟩ q1 rfl)) (fun v s' z => z) fun _ _ z => z.2
def CE.replIx (a : CE) (i : Int) (y z : Str) : CE where
  chk sc e := match e with
    | .Call (.Attribute (.Subscript x (.Constant (.int j) _ _) _) g ap) [.Constant (.str y') _ _, .Constant (.str z') _ _] [] cp => decide (g = "replace") && (decide (j = i) && (decide (y' = y) && (decide (z' = z) && (!(y == z) && ((ap.endLine == cp.line) && a.chk sc x)))))
    | _ => false
  req := a.req
  bor := none
  pur := a.pur
  ev env := (a.ev env).bind fun d e => optE ((fIx d (.int i)).bind (replD y z)) e
  pok := bind_pur1
  bok i h := by cases h
  sound sc X e W hc k q tk := by
    split at hc
    · rename_i x j jj p1 p2 g ap y' j1 p3 z' j2 p4 cp
      obtain ⟨h1, h⟩ := and3 hc
      obtain ⟨h2, h⟩ := and3 h
      obtain ⟨h3, h⟩ := and3 h
      obtain ⟨h4, h⟩ := and3 h
      obtain ⟨h5, h⟩ := and3 h
      obtain ⟨h6, h7⟩ := and3 h
      have e1 := of_decide_eq_true h1
      have e2 := of_decide_eq_true h2
      have e3 := of_decide_eq_true h3
      have e4 := of_decide_eq_true h4
      subst e1 e2 e3 e4
      have hyz : (y' == z') = false := by simpa using h5
      refine ⟨fun pins s σ H Q I h => ?_⟩
      refine PySem.Call_method2 (notSup_ok rfl) rfl h6 (wpAny_mono (ix_tok (Q := fun v H1 => ∃ x, v = .str x ∧ x.length + (x.length + 1) * z'.length ≤ 16777216 ∧ Q (.str (Txt.replace x y' z')) H1) (ixF_ok k.un) (a.sound sc X x W h7 k q tk) I ?_) (fun v s1 q => ?_) fun _ _ z => z)
      · obtain ⟨fx, L, G, env, R, h⟩ := h
        refine ⟨fx, L, G, env, R, ER.post_mono (ER.post_bind h) (fun d e1 _ h v H1 G1 R1 s1 v1 => ?_) fun _ _ _ h => h⟩
        obtain ⟨d', ef, h⟩ := optE_post h
        obtain ⟨d2, ef2, ef3⟩ := Option.bind_eq_some_iff.mp ef
        refine ⟨G1, d, .int j, R1.vw v1, ⟨R1.le, .inl rfl⟩, ?_⟩
        rw [ef2]
        intro v2 H2 G2 n r2
        unfold replD at ef3
        split at ef3
        · rename_i xx
          split at ef3
          · rename_i hb
            cases ef3
            have : v2 = .str xx := r2
            exact ⟨xx, this, hb, h _ H2 G2 (R1.grow n.1 n.2.1 n.2.2.1 (n.2.2.2 R1.tab.g)) (s1.trans n.2.1) rfl⟩
          · cases ef3
        · cases ef3
      · obtain ⟨hk, v', H1, I1, r1, x, e1, hb, q⟩ := q
        subst e1
        obtain ⟨tx, e2⟩ := r1
        subst e2
        refine ⟨"str", _, PySem.F.plainAttrs_str, PySem.F.slot_str_replace, PySem.F.type_str_replace, typeIs_str _ _ _, (fun _ e => nomatch e), Calls.callWith_builtin rfl (Calls.evalArgs_plain (Calls.spliced_cons ?_))⟩
        refine Calls.Constant_str (Calls.spliced_cons (Calls.Constant_str (Calls.spliced_nil ?_)))
        exact PySem.SC.replace (by show s1.toks ≠ 0; omega) (by show s1.toks + 1 ≠ 0; omega) (by show s1.toks ≠ s1.toks + 1; omega) hyz hb fun t' k => ⟨.str (Txt.replace x y' z'), H1, I1.tok k, ⟨t', rfl⟩, q⟩
    · cases hc
end C

set_option maxRecDepth 100000
set_option maxHeartbeats 4000000
namespace C
open PySem L2
/-! ### C(.., k = v, ..) by values -/
def pick {α : Type} (ord : List Nat) (l : List α) : List α := ord.filterMap fun i => l[i]?
theorem vals_at : ∀ {l : List V} {m : List Value} (i : Nat), Vals l m → (l[i]? = none ∧ m[i]? = none) ∨ ∃ v u, l[i]? = some v ∧ m[i]? = some u ∧ RelV v u
  | _, _, _, .nil => .inl ⟨rfl, rfl⟩
  | _, _, 0, .cons h _ => .inr ⟨_, _, rfl, rfl, h⟩
  | _, _, i + 1, .cons _ h => by simpa using vals_at i h
theorem vals_pick {l : List V} {m : List Value} (h : Vals l m) : ∀ ord : List Nat, Vals (pick ord l) (pick ord m)
  | [] => .nil
  | i :: r => by
    have ih := vals_pick h r
    unfold pick at ih ⊢
    rcases vals_at i h with ⟨h1, h2⟩ | ⟨v, u, h1, h2, h3⟩
    · rw [List.filterMap_cons_none h1, List.filterMap_cons_none h2]; exact ih
    · rw [List.filterMap_cons_some h1, List.filterMap_cons_some h2]; exact .cons h3 ih
theorem Reps.at2 {K : Fg} {G : Hp} : ∀ {l : List D} {xs : List V} (i : Nat), Reps K G l xs → (l[i]? = none ∧ xs[i]? = none) ∨ ∃ d v, l[i]? = some d ∧ xs[i]? = some v ∧ Rep K G d v
  | [], xs, i, h => by cases h; exact .inl ⟨rfl, rfl⟩
  | d :: l, xs, i, h => by
    obtain ⟨x, t, rfl, h1, h2⟩ := h
    cases i with
    | zero => exact .inr ⟨d, x, rfl, rfl, h1⟩
    | succ i => simpa using Reps.at2 i h2
theorem Reps.pick {K : Fg} {G : Hp} {l : List D} {xs : List V} (h : Reps K G l xs) : ∀ ord : List Nat, Reps K G (C.pick ord l) (C.pick ord xs)
  | [] => rfl
  | i :: r => by
    have ih := Reps.pick h r
    unfold C.pick at ih ⊢
    rcases h.at2 i with ⟨h1, h2⟩ | ⟨d, v, h1, h2, h3⟩
    · rw [List.filterMap_cons_none h1, List.filterMap_cons_none h2]; exact ih
    · rw [List.filterMap_cons_some h1, List.filterMap_cons_some h2]; exact ⟨v, _, rfl, h3, ih⟩
/-- ord: the parameters behind self, by their places among the positional values, the keywords' values and all defaults -/
def MkKRq (r : Rq) (c : Str) (n m : Nat) (ks : List Str) (ord : List Nat) (dds : List D) (F : List D → FR) : Prop := ∃ k f fd ps g dvs, FnOk r.prog r.w r.K r.mg r.base (L2.CX r.prog r.w) k f fd ps (lift r.K n [0] false F) ∧ Room (k + 1) r.A ∧
  Mk r.K (ga r.K c) f ∧ KBn r.K fd ps (m + 1) ks g (fun vs zs => pick (0 :: ord.map (· + 1)) (vs ++ (zs ++ dvs))) ∧ ∀ G, Reps r.K G dds dvs
theorem pick_self {α : Type} (ord : List Nat) (x : α) (l : List α) : pick (0 :: ord.map (· + 1)) (x :: l) = x :: pick ord l := by
  simp [pick, List.filterMap_map, Function.comp_def]
theorem run_mkN {X : Cx} {T : CXT} {k m : Nat} {f Cl : Addr} {fd : FuncData} {ps ks : List Str} {sp : Sp} {E : XK} {pins : List (Addr × Obj)} {σ : St} {H : Hp} {s : Shared} {Q : VK} {us ws : List Value} {vs zs : List V} {g : List Value → List Value → List Value} {gV : List V → List V → List V}
    (M : Mk X.K Cl f) (F : FnOk X.prog X.w X.K X.mg X.base T k f fd ps sp) (hr : Room (k + 1) X.A) (hb : KBn X.K fd ps (m + 1) ks g gV) (hx : PassesAt T X σ E) (I : Inv X pins σ H s) (rv : Vals vs us) (rz : Vals zs ws) (l1 : vs.length = m) (l2 : zs.length = ks.length)
    (h : ∀ x dx, H x = none → H dx = none → dx ≠ x → sp (gV (.ref x :: vs) zs) (L2.upd (L2.upd H dx (.own x)) x (.ins Cl dx [])) (fun v H2 => v = .non ∧ Q (.ref x) H2) E) : wpAny (model X.prog X.w) X.A (call (.ref Cl) us (ks.zip ws)) (EP X pins σ Q) X.xe s := by
  let n := s.heap.objs.size
  have q := h (n + 1) n (I.hok.fresh (Nat.le_succ _)) (I.hok.fresh (Nat.le_refl _)) (Nat.ne_of_lt (Nat.lt_succ_self _))
  have J := Inv.made (C := Cl) I
  have rv1 : Vals (V.ref (n + 1) :: vs) (Value.ref (n + 1) :: us) := .cons rfl rv
  have e1 : (Value.ref (n + 1) :: us).length = m + 1 := rv1.length.symm.trans (congrArg Nat.succ l1)
  have bt := hb.to _ (Value.ref (n + 1) :: us) ws J.kIn e1 (rz.length.symm.trans l2)
  have go := F.run _ X.stack _ _ ⟨Value.ref (n + 1) :: us, ks.zip ws⟩ (g (Value.ref (n + 1) :: us) ws) _ _ E (hr.make Cl us (ks.zip ws)) (J.env0.make Cl us (ks.zip ws)) bt (hb.rel rv1 rz) q
  refine wpAny_call (make_map (f := f) I.kIn M.makes M.init (beq_iff_eq.mp M.fn) (codeAny_mono go fun r s' z => ?_))
  match r, z with
  | .error e, z => exact hx pins _ _ e s' J z
  | .ok (.ret u), z =>
    obtain ⟨v, H', J', rv', ev, q'⟩ := J.after z
    subst ev
    exact ⟨rv', ⟨V.ref (n + 1), H', J', rfl, q'⟩⟩
  | .ok .next, z => exact z.elim
  | .ok .brk, z => exact z.elim
  | .ok .cont, z => exact z.elim
/-- the keywords' values -/
def chkKw (sc : SC) : List (Str × CE) → List Keyword → Bool
  | [], [] => true
  | (x, c) :: r, ⟨some y, e, _⟩ :: es => decide (y = x) && (c.bor.isNone && (c.chk sc e && chkKw sc r es))
  | _, _ => false
def reqKw : List (Str × CE) → Rq → Prop
  | [], _ => True
  | (_, c) :: r, z => c.req z ∧ reqKw r z
def evKw : List (Str × CE) → Env → AR
  | [], env => .ok [] env
  | (_, c) :: r, env => (c.ev env).bindA fun d e => (evKw r e).bindA fun ds e => .ok (d :: ds) e
theorem kw_pk {sc : SC} {X : Cx} {W : WX} (k : XOk sc X) (tk : Takes X W) : ∀ (l : List (Str × CE)) (kws : List Keyword), chkKw sc l kws = true → reqKw l (rq X) → PK X kws (tAr sc X.K (evKw l) W) ∧
    ∀ pos, (backToKw pos (keywordEach kws X.env)).all (·.1.isSome) = true ∧ (backToKw pos (keywordEach kws X.env)).filterMap (·.1) = l.map (·.1) ∧ (backToKw pos (keywordEach kws X.env)).any (·.1.isNone) = false
  | [], [], _, _ => by
    refine ⟨⟨fun pos pins s σ H Q I h => ?_⟩, fun _ => ⟨rfl, rfl, rfl⟩⟩
    obtain ⟨fx, L, G, env, R, h⟩ := h
    exact (pk_nil (X := X)).run pos pins s σ H Q I (h [] H G R (Same.refl _) rfl)
  | (x, c) :: r, ⟨some y, e, p⟩ :: es, hc, q => by
    obtain ⟨h1, h⟩ := and3 hc
    obtain ⟨h2, h⟩ := and3 h
    obtain ⟨h3, h4⟩ := and3 h
    have ey := of_decide_eq_true h1
    subst ey
    obtain ⟨ih, ih2⟩ := kw_pk k tk r es h4 q.2
    have hb : c.bor = none := by simpa using h2
    refine ⟨⟨fun pos pins s σ H Q I h => (pk_cons (c.sound sc X e W h3 k q.1 tk) ih).run pos pins s σ H Q I ?_⟩, fun pos => ?_⟩
    · obtain ⟨fx, L, G, env, R, h⟩ := h
      refine ⟨fx, L, G, env, R, ER.post_mono (ER.post_bindA h) (fun d e1 _ h v H1 G1 R1 s1 v1 => ?_) fun _ _ _ h => h⟩
      rw [hb] at v1
      refine ⟨fx, L, G1, e1, R1, AR.post_mono (AR.post_bindA h) (fun ds e2 _ h vs H2 G2 R2 s2 v2 => ?_) (XW.mono s1)⟩
      exact h (v :: vs) H2 G2 R2 (s1.trans s2) ⟨v, vs, rfl, Rep.mono (Le.of_same s2) _ _ v1, v2⟩
    · obtain ⟨i1, i2, i3⟩ := ih2 pos
      refine ⟨?_, ?_, ?_⟩
      · show (true && _) = true
        rw [Bool.true_and]; exact i1
      · show y :: _ = _
        exact congrArg (y :: ·) i2
      · show (false || _) = false
        rw [Bool.false_or]; exact i3
  | [], _ :: _, h, _ => by cases h
  | _ :: _, [], h, _ => by cases h
  | _ :: _, ⟨none, _, _⟩ :: _, h, _ => by cases h
theorem ArgR.ofReps {sc : SC} {K : Fg} {G : Hp} {σ : St} {env : Env} : ∀ {ds : List D} {vs : List V}, Reps K G ds vs → ArgR sc K G σ env (List.replicate ds.length none) ds vs
  | [], vs, h => h
  | d :: ds, vs, h => by
    obtain ⟨x, t, rfl, h1, h2⟩ := h
    exact ⟨x, t, rfl, h1, ArgR.ofReps h2⟩
theorem posR_none (m : Nat) : ∀ p, posR p (List.replicate m none) = [] := by
  induction m with
  | zero => intro p; rfl
  | succ m ih => intro p; exact ih (p + 1)
theorem slR_none (m : Nat) : slR (List.replicate m none) = [] := by
  unfold slR
  induction m with
  | zero => rfl
  | succ m ih => rw [List.replicate_succ, List.filterMap_cons_none rfl]; exact ih
def evMkK (c : Str) (F : List D → FR) (ord : List Nat) (n m : Nat) (dds : List D) (r : CC) (kw : List (Str × CE)) (env : Env) : ER := (r.ev env).bind fun ds e => (evKw kw e).bind fun es e =>
  if ds.length = m ∧ es.length = kw.length ∧ (pick ord (ds ++ (es ++ dds))).length + 1 = n then evMk c F [] (List.replicate (pick ord (ds ++ (es ++ dds))).length none) (pick ord (ds ++ (es ++ dds))) e else .bad
def CF.makeK (c : Str) (n m : Nat) (ord : List Nat) (dds : List D) (F : List D → FR) (r : CC) (kw : List (Str × CE)) (hp : r.sl.all (·.isNone) = true) (em : EmptyOk r) : CF where
  chk sc e := match e with
    | .Call (.Name y _) es kws _ => decide (y = c) && (chkGl sc c && (!(c == ("__debug__" : Str)) && (decide (r.sl.length = m) && (r.chk sc es && (chkKw sc kw kws && decide (es.length = m))))))
    | _ => false
  req z := MkKRq z c n m (kw.map (·.1)) ord dds F ∧ z.mg c = some (.ref (ga z.K c)) ∧ r.req z ∧ reqKw kw z
  pur := false
  ev := fun env => (evMkK c F ord n m dds r kw env).bind fun d e => .ok d e
  pok h := by cases h
  sound sc X e W hc k q tk := by
    split at hc
    · rename_i y yp es kws pos
      obtain ⟨h1, h⟩ := and3 hc
      obtain ⟨h2, h⟩ := and3 h
      obtain ⟨h3, h⟩ := and3 h
      obtain ⟨h4, h⟩ := and3 h
      obtain ⟨h5, h⟩ := and3 h
      obtain ⟨h6, h7⟩ := and3 h
      have ey := of_decide_eq_true h1
      subst ey
      obtain ⟨⟨kk, f, fd, ps, g, dvs, Fk, hr, M, hb, hd⟩, qm, qr, qk⟩ := q
      obtain ⟨pk, pk2⟩ := kw_pk k tk kw kws h6 qk
      obtain ⟨b1, b2, b3⟩ := pk2 pos
      have ns := r.star sc _ h5
      refine ⟨fun pins s σ H Q I hz => ?_⟩
      obtain ⟨fx, L, G, env, R, hz⟩ := hz
      refine wpAny_Call_Name_kw (ld_glob I (chkGl_ok h2 k) qm ?_ (by simpa using h3))
      -- behind the positional values
      have fin : ∀ (us : List Value) (s1 : Shared) (vs : List V) (H1 G1 : Hp) (e1 : Env) (ds : List D), Inv X pins σ H1 s1 → Vals vs us → Rel sc X.K fx L G1 H1 σ e1 → Same G G1 → Reps X.K G1 ds vs →
          ((evKw kw e1).bind fun es e => if ds.length = m ∧ es.length = kw.length ∧ (pick ord (ds ++ (es ++ dds))).length + 1 = n then evMk y F [] (List.replicate (pick ord (ds ++ (es ++ dds))).length none) (pick ord (ds ++ (es ++ dds))) e else .bad).post (fun d env' => ∀ v H' G', Rel sc X.K fx L G' H' σ env' → Same G G' → FrRel sc X.K fx L G' H' σ env' d v → Q v H') (XW sc X.K fx L G σ W) →
          wpAny (model X.prog X.w) X.A (evalAll ((backToKw pos (keywordEach kws X.env)).map (·.2))) (fun ks s2 => X.K.In s2.heap ∧ wpAny (model X.prog X.w) X.A (PySem.call (Value.ref (ga X.K y)) us (((backToKw pos (keywordEach kws X.env)).filterMap (·.1)).zip ks)) (EP X pins σ Q) X.xe s2) X.xe s1 := by
        intro us s1 vs H1 G1 e1 ds I1 rv R1 s01 rd hz
        refine thn (pk.run pos pins s1 σ H1 (fun zs H2 => ∃ G2 e2 ds2, Rel sc X.K fx L G2 H2 σ e2 ∧ Same G1 G2 ∧ Reps X.K G2 ds2 zs ∧ ds.length = m ∧ ds2.length = kw.length ∧ (pick ord (ds ++ (ds2 ++ dds))).length + 1 = n ∧ (evMk y F [] (List.replicate (pick ord (ds ++ (ds2 ++ dds))).length none) (pick ord (ds ++ (ds2 ++ dds))) e2).post (fun d env' => ∀ v H' G', Rel sc X.K fx L G' H' σ env' → Same G G' → FrRel sc X.K fx L G' H' σ env' d v → Q v H') (XW sc X.K fx L G σ W)) I1 ⟨fx, L, G1, e1, R1, AR.post_mono (AR.post_bind hz) (fun ds2 e2 _ hz zs H2 G2 R2 s2 r2 => ?_) (XW.mono s01)⟩) fun ws s2 z => ?_
        · split at hz
          · rename_i hl
            exact ⟨G2, e2, ds2, R2, s2, r2, hl.1, hl.2.1, hl.2.2, hz⟩
          · exact hz.elim
        · obtain ⟨zs, H2, I2, rz, G2, e2, ds2, R2, s12, r2, l1, l2, l3, hz⟩ := z
          refine ⟨I2.kIn, ?_⟩
          rw [b2]
          have rd2 : Reps X.K G2 ds vs := Reps.mono (Le.of_same s12) _ _ rd
          have rall : Reps X.K G2 (pick ord (ds ++ (ds2 ++ dds))) (pick ord (vs ++ (zs ++ dvs))) := Reps.pick (rd2.append (r2.append (hd G2))) ord
          refine run_mkN M Fk hr hb (passAt tk σ) I2 rv rz (by rw [← rd2.length]; exact l1) (by rw [← r2.length, List.length_map]; exact l2) fun x dx hx hdx hne => ?_
          show lift X.K n [0] false F (pick (0 :: ord.map (· + 1)) ((V.ref x :: vs) ++ (zs ++ dvs))) _ _ _
          rw [List.cons_append, pick_self]
          have := mk_to (n := n) (dds := []) (dvs := []) R2 (ArgR.ofReps rall) (by rw [slR_none]; exact List.nodup_nil) (fun _ => rfl) ?_ (s01.trans s12) hx hdx hne hz
          · have e0 : posR 0 (some σ.length :: List.replicate (pick ord (ds ++ (ds2 ++ dds))).length none) = [0] := by
              show 0 :: posR 1 _ = [0]
              rw [posR_none]
            rw [e0, List.append_nil] at this
            exact this
          · rw [List.length_replicate]
            exact l3
      have ev0 : (evMkK y F ord n m dds r kw env).post (fun d env' => ∀ v H' G', Rel sc X.K fx L G' H' σ env' → Same G G' → FrRel sc X.K fx L G' H' σ env' d v → Q v H') (XW sc X.K fx L G σ W) := by
        have := ER.post_bind hz
        exact ER.post_mono this (fun _ _ _ z => z) fun _ _ _ z => z
      unfold evMkK at ev0
      cases es with
      | nil =>
        refine PySem.W.callWith_KW0 (h₀ := X.base) I.ok.mod.kin M.kp b1 ?_ (by rw [b3]; rfl)
        have e0 : m = 0 := (of_decide_eq_true h7).symm
        subst e0
        obtain ⟨G1, e1, ds, R1, s01, rd, hz⟩ := em sc [] h5 rfl X.K W σ H (fun vs H1 => ∃ G1 e1 ds, Rel sc X.K fx L G1 H1 σ e1 ∧ Same G G1 ∧ Reps X.K G1 ds vs ∧ ((evKw kw e1).bind fun es e => if ds.length = 0 ∧ es.length = kw.length ∧ (pick ord (ds ++ (es ++ dds))).length + 1 = n then evMk y F [] (List.replicate (pick ord (ds ++ (es ++ dds))).length none) (pick ord (ds ++ (es ++ dds))) e else .bad).post (fun d env' => ∀ v H' G', Rel sc X.K fx L G' H' σ env' → Same G G' → FrRel sc X.K fx L G' H' σ env' d v → Q v H') (XW sc X.K fx L G σ W)) ⟨fx, L, G, env, R, AR.post_mono (AR.post_bind ev0) (fun ds e1 _ hz vs H1 G1 R1 s1 ar => ⟨G1, e1, ds, R1, s1, ar.plain hp, hz⟩) fun _ _ _ z => z⟩
        exact fin [] s [] H G1 e1 ds I .nil R1 s01 rd hz
      | cons e es =>
        rw [List.all_cons] at ns
        refine PySem.W.callWith_KW (h₀ := X.base) I.ok.mod.kin M.kp b1 (thn ((r.sound sc X (e :: es) W h5 k qr tk).run pos pins s σ H (fun vs H1 => ∃ G1 e1 ds, Rel sc X.K fx L G1 H1 σ e1 ∧ Same G G1 ∧ Reps X.K G1 ds vs ∧ ((evKw kw e1).bind fun es e => if ds.length = m ∧ es.length = kw.length ∧ (pick ord (ds ++ (es ++ dds))).length + 1 = n then evMk y F [] (List.replicate (pick ord (ds ++ (es ++ dds))).length none) (pick ord (ds ++ (es ++ dds))) e else .bad).post (fun d env' => ∀ v H' G', Rel sc X.K fx L G' H' σ env' → Same G G' → FrRel sc X.K fx L G' H' σ env' d v → Q v H') (XW sc X.K fx L G σ W)) I ⟨fx, L, G, env, R, AR.post_mono (AR.post_bind ev0) (fun ds e1 _ hz vs H1 G1 R1 s1 ar => ⟨G1, e1, ds, R1, s1, ar.plain hp, hz⟩) fun _ _ _ z => z⟩) fun us s1 z => ?_) (by rw [nostar_any (es := e :: es) (by rw [List.all_cons]; exact ns), b3]; rfl) (notStar_ok (and3 ns).1)
        obtain ⟨vs, H1, I1, rv, G1, e1, ds, R1, s01, rd, hz⟩ := z
        exact fin us s1 vs H1 G1 e1 ds I1 rv R1 s01 rd hz
    · cases hc
theorem OkG.mkKRq {P : Program} {w : World} {K : Fg} {mg : Str → Option Value} {base : Heap} {A : Around} {d : DefG} {k n : Nat} {ps : List Str} {F : List D → FR} {dds : List D} (o : OkG P w K mg base d k ps n [0] false F) (c : Str) (hr : Room (k + 1) A) (hm : Mk K (ga K c) (d.ad K)) (m : Nat) (ks : List Str) (ord : List Nat) (hd : d.dfl ≠ [])
    (h : ∀ (T : Addr) (kV doc pm : Value) (an : Option Addr) (cdv ct : Value) (us its ws : List Value), us.length = m + 1 → its.length = d.dfl.length → ws.length = ks.length →
      ∃ k, bindArgs (PySem.W.fnOf d.name d.qual d.params d.body d.scope (.ref T) kV doc pm an cdv ct) ⟨us, ks.zip ws⟩ = seqItems? (.ref T) >>= k ∧ k (some its.toArray) = pure (ps.zip (pick (0 :: ord.map (· + 1)) (us ++ (ws ++ its)))))
    (hv : ∀ G, Reps K G dds (d.dvs K)) : MkKRq ⟨P, w, K, mg, base, A⟩ c n m ks ord dds F := by
  obtain ⟨fd, f1, f2⟩ := o
  have hd' : d.dvs K ≠ [] := fun e => hd (List.map_eq_nil_iff.mp e)
  have hl : (d.dvs K).length = d.dfl.length := List.length_map _
  obtain ⟨its, hb⟩ := f1.kbindsD (m + 1) ks (fun us its ws => pick (0 :: ord.map (· + 1)) (us ++ (ws ++ its))) hd' (fun r1 r2 r3 => vals_pick (r1.append (r3.append r2)) _) (fun T kV doc pm an cdv ct us its ws h1 h2 h3 => h T kV doc pm an cdv ct us its ws h1 (h2.trans hl) h3)
  exact ⟨k, d.ad K, fd, ps, _, d.dvs K, f2, hr, hm, hb, hv⟩
end C

set_option maxRecDepth 100000
set_option maxHeartbeats 4000000
namespace C
open PySem L2
/-! ### the end of a law -/
theorem funG_same {K : Fg} {d : DefG} {f1 f2 : FuncData} (a : FunG K d f1) (b : FunG K d f2) : f1 = f2 := by
  obtain ⟨oc, od, dV, kV, doc, pm, an, cdv, ct, osl, _, l1, _⟩ := a.ex
  obtain ⟨oc', od', dV', kV', doc', pm', an', cdv', ct', osl', _, l2, _⟩ := b.ex
  rw [l1] at l2
  cases l2
  rfl
theorem lift_law {K : Fg} {F : List D → FR} {ns : List Int} {H : Hp} {a : Addr} (tb : LamX.Tabs (lamT K) H) (hS : SqL K H a (ns.map V.int)) (hF : F [.scr ns] = .ret (.bl true) []) : lift K 1 [] false F [.ref a] H (fun v _ => v = .bl true) fun _ _ _ => False := by
  have key : ∃ G : Hp, (∀ b o, G b = some o → H b = some o) ∧ SqL K G a (ns.map V.int) ∧ noTb G := by
    rcases hS with r | r
    · refine ⟨fun b => if b = a then H a else none, fun b o e => ?_, .inl ?_, fun b ps e => ?_⟩
      · have e : (if b = a then H a else none) = some o := e
        split at e
        · rename_i hb; rw [hb]; exact e
        · cases e
      · show (if a = a then H a else none) = some (.lst (ns.map V.int)) ∨ ∃ o, (if a = a then H a else none) = some (.frz o (.lst (ns.map V.int)))
        rw [if_pos rfl]
        exact r
      · have e : (if b = a then H a else none) = some (.tbl ps) := e
        split at e
        · rcases r with z | ⟨ob, z⟩
          · rw [z] at e; cases e
          · rw [z] at e; cases e
        · cases e
    · exact ⟨fun _ => none, (fun b o e => by cases e), .inr r, (fun b ps e => by cases e)⟩
  obtain ⟨G, h1, h2, h3⟩ := key
  refine ⟨G, [.scr ns], rfl, h1, ⟨rfl, fun i d _ e => ?_, (fun i e hi _ => by cases hi), (fun i j a hi => by cases hi), tb, h3⟩, ?_⟩
  · cases i with
    | zero => cases e; exact ⟨.ref a, rfl, a, rfl, h2⟩
    | succ i => cases e
  · rw [hF]
    exact fun v H' G' _ r => r
theorem law_end {l : PySem.W.OpenLaw} {fa : List He.Fa} {ts : List He.Tab} {tf : List He.Defn} {fq : List Fq} {gn : List DefG} {w : World} {K : Fg} {mg : Str → Option Value} {h : Heap} {f : Addr} {d : DefG} {k : Nat} {x : Str} {F : List D → FR}
    (X : K.In h) (G : h.Ns mainGlobals mg) (c : Hd fa ts tf (fun K => fq.all fun q => q.ok l.prog K) gn w h K) (hl : lamDefs.map (fun p => (p.1, (Option.none : Option Str))) = tf)
    (hf : f = d.ad K) (hd : d.dfl = []) (hb : ∀ (kV doc pm : Value) (an : Option Addr) (cdv ct : Value) (us : List Value), us.length = [x].length → bindArgs (PySem.W.fnOf d.name d.qual d.params d.body d.scope .none kV doc pm an cdv ct) ⟨us, []⟩ = pure ([x].zip us))
    (i : Nat) (hi : gn[i]? = some d)
    (ok : ∀ base, Zc0 l.prog fa ts tf fq gn w K mg h base → OkG l.prog w K mg base d k [x] 1 [] false F) (hF : ∀ ns : List Int, ns.length ≤ 63 → (∀ z ∈ ns, Builtin.Int.intBits z ≤ 1048576) → F [.scr ns] = .ret (.bl true) []) :
    LamX.LawAtS l w K (L2.CX l.prog w) k 63 x mg f h := by
  have e2 : (gn.map fun d => fnWA K (d.ad K))[i]? = (gn.map DefG.val)[i]? := by rw [c.g2]
  rw [List.getElem?_map, List.getElem?_map, hi] at e2
  obtain ⟨fd, F0⟩ := DefG.funD (Option.some.inj e2) (List.all_eq_true.mp c.g1 d (List.mem_of_getElem? hi))
  have F1 : FunD K d.name d.qual d.params d.body d.scope [] [] (d.ad K) fd := by
    have := F0
    unfold FunG DefG.dvs at this
    rw [hd] at this
    exact this
  refine ⟨fd, tf.map (He.cT K), lift K 1 [] false F, fun p hp => ?_, fun p hp => ?_, fun p hp => ?_, fun s u => F1.bindsA (ps := [x]) hb s [u] rfl, fun H a ns h1 h2 h3 h4 => ?_, fun base hKb hns hT => ?_⟩
  · obtain ⟨q, hq, rfl⟩ := List.mem_map.mp hp; exact c.c.empty q hq
  · obtain ⟨q, hq, rfl⟩ := List.mem_map.mp hp; exact c.c.out q hq
  · obtain ⟨q, hq, rfl⟩ := List.mem_map.mp hp; exact PySem.W.codeHd_of_K X (c.c.hd q hq)
  · refine lift_law (fun p hp => ?_) h4 (hF ns h1 h2)
    unfold lamT at hp
    obtain ⟨q, hq, rfl⟩ := List.mem_map.mp hp
    refine ⟨#[], h3 (He.cT K (q.1, none)) (List.mem_map.mpr ⟨(q.1, none), ?_, rfl⟩), ?_, ?_⟩
    · rw [← hl]; exact List.mem_map.mpr ⟨q, hq, rfl⟩
    · first | trivial | exact .nil | (unfold TriplesOk; trivial)
    · intro pos cv hc; cases hc
  · obtain ⟨fd2, a1, a2⟩ := ok base ⟨X, G, c, hT⟩
    rw [funG_same F0 a1, hf]
    exact a2
end C

set_option maxRecDepth 100000
set_option maxHeartbeats 4000000
namespace C
open PySem L2
/-! ### the pure meaning, step by step (for simp) -/
@[simp] theorem ofS_inj {a b : String} : (Str.ofString a = Str.ofString b) ↔ a = b := by
  refine ⟨fun h => ?_, fun h => by rw [h]⟩
  rw [Str.ofString_eq_toList, Str.ofString_eq_toList] at h
  have h1 : (a.toList.map Char.toNat).toArray = (b.toList.map Char.toNat).toArray := congrArg Str.cps h
  have h2 : a.toList.map Char.toNat = b.toList.map Char.toNat := by simpa using h1
  have h3 : a.toList = b.toList := by
    refine List.map_inj_right (f := Char.toNat) (fun x y e => ?_) |>.mp h2
    have : Char.ofNat x.toNat = Char.ofNat y.toNat := by rw [e]
    rwa [Char.ofNat_toNat, Char.ofNat_toNat] at this
  exact String.toList_inj.mp h3
@[simp] theorem ofS_beq {a b : String} : (Str.ofString a == Str.ofString b) = (a == b) := by
  by_cases h : a = b
  · subst h; simp
  · have h2 : ¬ Str.ofString a = Str.ofString b := fun z => h (ofS_inj.mp z)
    rw [beq_false_of_ne h2, beq_false_of_ne h]
section
variable {env : Env} {d : D} {ds : List D} {b : Bool} {c : Str} {fs : List (Str × D)}
@[simp] theorem ER.bind_ok (k : D → Env → ER) : (ER.ok d env).bind k = k d env := rfl
@[simp] theorem ER.bind_exc (k : D → Env → ER) : (ER.exc c fs env).bind k = .exc c fs env := rfl
@[simp] theorem ER.bind_bad (k : D → Env → ER) : ER.bad.bind k = .bad := rfl
@[simp] theorem ER.bindA_ok (k : D → Env → AR) : (ER.ok d env).bindA k = k d env := rfl
@[simp] theorem ER.bindA_exc (k : D → Env → AR) : (ER.exc c fs env).bindA k = .exc c fs env := rfl
@[simp] theorem ER.bindA_bad (k : D → Env → AR) : ER.bad.bindA k = .bad := rfl
@[simp] theorem ER.bindT_ok (k : D → Env → TR) : (ER.ok d env).bindT k = k d env := rfl
@[simp] theorem ER.bindT_exc (k : D → Env → TR) : (ER.exc c fs env).bindT k = .exc c fs env := rfl
@[simp] theorem ER.bindT_bad (k : D → Env → TR) : ER.bad.bindT k = .bad := rfl
@[simp] theorem ER.bindS_ok (k : D → Env → SR) : (ER.ok d env).bindS k = k d env := rfl
@[simp] theorem ER.bindS_exc (k : D → Env → SR) : (ER.exc c fs env).bindS k = .exc c fs env := rfl
@[simp] theorem ER.bindS_bad (k : D → Env → SR) : ER.bad.bindS k = .bad := rfl
@[simp] theorem AR.bind_ok (k : List D → Env → ER) : (AR.ok ds env).bind k = k ds env := rfl
@[simp] theorem AR.bind_exc (k : List D → Env → ER) : (AR.exc c fs env).bind k = .exc c fs env := rfl
@[simp] theorem AR.bind_bad (k : List D → Env → ER) : AR.bad.bind k = .bad := rfl
@[simp] theorem AR.bindA_ok (k : List D → Env → AR) : (AR.ok ds env).bindA k = k ds env := rfl
@[simp] theorem AR.bindA_exc (k : List D → Env → AR) : (AR.exc c fs env).bindA k = .exc c fs env := rfl
@[simp] theorem AR.bindA_bad (k : List D → Env → AR) : AR.bad.bindA k = .bad := rfl
@[simp] theorem AR.bindS_ok (k : List D → Env → SR) : (AR.ok ds env).bindS k = k ds env := rfl
@[simp] theorem AR.bindS_exc (k : List D → Env → SR) : (AR.exc c fs env).bindS k = .exc c fs env := rfl
@[simp] theorem AR.bindS_bad (k : List D → Env → SR) : AR.bad.bindS k = .bad := rfl
@[simp] theorem TR.bind_ok (k : Bool → Env → ER) : (TR.ok b env).bind k = k b env := rfl
@[simp] theorem TR.bind_exc (k : Bool → Env → ER) : (TR.exc c fs env).bind k = .exc c fs env := rfl
@[simp] theorem TR.bind_bad (k : Bool → Env → ER) : TR.bad.bind k = .bad := rfl
@[simp] theorem TR.bindT_ok (k : Bool → Env → TR) : (TR.ok b env).bindT k = k b env := rfl
@[simp] theorem TR.bindT_exc (k : Bool → Env → TR) : (TR.exc c fs env).bindT k = .exc c fs env := rfl
@[simp] theorem TR.bindT_bad (k : Bool → Env → TR) : TR.bad.bindT k = .bad := rfl
@[simp] theorem TR.bindS_ok (k : Bool → Env → SR) : (TR.ok b env).bindS k = k b env := rfl
@[simp] theorem TR.bindS_exc (k : Bool → Env → SR) : (TR.exc c fs env).bindS k = .exc c fs env := rfl
@[simp] theorem TR.bindS_bad (k : Bool → Env → SR) : TR.bad.bindS k = .bad := rfl
@[simp] theorem SR.seq_nx (k : Env → SR) : (SR.nx env).seq k = k env := rfl
@[simp] theorem SR.seq_rt (k : Env → SR) : (SR.rt d env).seq k = .rt d env := rfl
@[simp] theorem SR.seq_exc (k : Env → SR) : (SR.exc c fs env).seq k = .exc c fs env := rfl
@[simp] theorem SR.seq_bk (k : Env → SR) : (SR.bk env).seq k = .bk env := rfl
@[simp] theorem SR.seq_ct (k : Env → SR) : (SR.ct env).seq k = .ct env := rfl
@[simp] theorem SR.seq_bad (k : Env → SR) : SR.bad.seq k = .bad := rfl
@[simp] theorem optE_some : optE (some d) env = .ok d env := rfl
@[simp] theorem optE_none : optE none env = .bad := rfl
@[simp] theorem optT_some : optT (some b) env = .ok b env := rfl
@[simp] theorem optT_none : optT none env = .bad := rfl
theorem ite_bind {p : Prop} [Decidable p] (x y : SR) (k : Env → SR) : (if p then x else y).seq k = if p then x.seq k else y.seq k := by split <;> rfl
@[simp] theorem ev_var (i : Nat) : (CE.var i).ev env = evVar i env := rfl
@[simp] theorem ev_bvar (i : Nat) : (CE.bvar i).ev env = evVar i env := rfl
@[simp] theorem ev_int (i : Int) : (CE.int i).ev env = .ok (.int i) env := rfl
@[simp] theorem ev_bl (i : Bool) : (CE.bl i).ev env = .ok (.bl i) env := rfl
@[simp] theorem ev_str (i : Str) : (CE.str i).ev env = .ok (.str i) env := rfl
@[simp] theorem ev_non : CE.non.ev env = .ok .non env := rfl
@[simp] theorem ev_gstr (x y : Str) : (CE.gstr x y).ev env = .ok (.str y) env := rfl
@[simp] theorem ev_gint (x : Str) (y : Int) : (CE.gint x y).ev env = .ok (.int y) env := rfl
@[simp] theorem ev_ggl (x : Str) : (CE.ggl x).ev env = .ok (.gl x) env := rfl
@[simp] theorem ev_bin {op : Operator} (o : Bin op) (a b : CE) : (CE.bin o a b).ev env = (a.ev env).bind fun x e1 => (b.ev e1).bind fun y e2 => optE (o.f x y) e2 := rfl
@[simp] theorem ev_cmp {op : CmpOp} (o : Cmp op) (a b : CE) : (CE.cmp o a b).ev env = (a.ev env).bind fun x e1 => (b.ev e1).bind fun y e2 => optE ((o.f x y).map D.bl) e2 := rfl
@[simp] theorem ev_cmpT {op : CmpOp} (o : Cmp op) (a b : CE) : (CT.cmp o a b).ev env = (a.ev env).bindT fun x e1 => (b.ev e1).bindT fun y e2 => optT (o.f x y) e2 := rfl
@[simp] theorem ev_chain {op op' : CmpOp} (o : Cmp op) (o' : Cmp op') (a b c : CE) : (CE.chain o o' a b c).ev env = (evChain o o' a b c env).bind fun b e => .ok (.bl b) e := rfl
@[simp] theorem ev_chainT {op op' : CmpOp} (o : Cmp op) (o' : Cmp op') (a b c : CE) : (CT.chain o o' a b c).ev env = evChain o o' a b c env := rfl
@[simp] theorem ev_val (c : CE) : (CT.val c).ev env = (c.ev env).bindT fun d e => optT (truN d) e := rfl
@[simp] theorem ev_not (t : CT) : (CT.not t).ev env = (t.ev env).bindT fun b e => .ok (!b) e := rfl
@[simp] theorem ev_and (l : List CT) : (CT.and l).ev env = evAnd l env := rfl
@[simp] theorem ev_or (l : List CT) : (CT.or l).ev env = evOr l env := rfl
@[simp] theorem ev_ite (t : CT) (a b : CE) : (CE.ite t a b).ev env = (t.ev env).bind fun c e => if c = true then a.ev e else b.ev e := rfl
@[simp] theorem ev_ofF (c : CF) : (CE.ofF c).ev env = c.ev env := rfl
@[simp] theorem ev_move (i : Nat) : (CF.move i).ev env = evMove i env := rfl
@[simp] theorem ev_anil : CA.nil.ev env = .ok [] env := rfl
@[simp] theorem ev_acons (c : CE) (r : CA) : (CA.cons c r).ev env = (c.ev env).bindA fun d e => (r.ev e).bindA fun ds e => .ok (d :: ds) e := rfl
@[simp] theorem ev_tup (r : CA) : (CE.tup r).ev env = (r.ev env).bind fun ds e => if ds.length ≤ sizeLine then .ok (.tup ds) e else .bad := rfl
@[simp] theorem ev_lst (r : CA) : (CF.lst r).ev env = (r.ev env).bind fun ds e => if ds.length ≤ sizeLine then .ok (.lst ds) e else .bad := rfl
@[simp] theorem ev_ix (a b : CE) : (CE.ix a b).ev env = (a.ev env).bind fun x e1 => (b.ev e1).bind fun y e2 => optE (fIx x y) e2 := rfl
@[simp] theorem ev_ret (c : CE) : (CS.ret c).ev env = (c.ev env).bindS fun d e => .rt d e := rfl
@[simp] theorem ev_retF (c : CF) : (CS.retF c).ev env = (c.ev env).bindS fun d e => .rt d e := rfl
@[simp] theorem ev_expr (c : CE) : (CS.expr c).ev env = (c.ev env).bindS fun d e => .nx e := rfl
@[simp] theorem ev_pass : CS.pass.ev env = .nx env := rfl
@[simp] theorem ev_brk : CS.brk.ev env = .bk env := rfl
@[simp] theorem ev_cont : CS.cont.ev env = .ct env := rfl
@[simp] theorem ev_never : CS.never.ev env = .bad := rfl
@[simp] theorem ev_asg (g : CG) (c : CE) : (CS.asg g c).ev env = (c.ev env).bindS fun d e => match g.asg d e with | some e' => .nx e' | none => .bad := rfl
@[simp] theorem asg_name (i : Nat) : (CG.name i).asg d env = some (env.set i (some d)) := rfl
@[simp] theorem asg_tupT (l : List CG) (ds : List D) : (CG.tup l).asg (.tup ds) env = if ds.length = l.length then asgL l ds env else none := rfl
@[simp] theorem asg_tupL (l : List CG) (ds : List D) : (CG.tup l).asg (.lst ds) env = if ds.length = l.length then asgL l ds env else none := rfl
@[simp] theorem asgL_nil : asgL [] [] env = some env := rfl
@[simp] theorem asgL_cons (g : CG) (gs : List CG) : asgL (g :: gs) (d :: ds) env = (g.asg d env).bind fun e => asgL gs ds e := rfl
@[simp] theorem ev_setF (i : Nat) (c : CF) : (CS.setF i c).ev env = (c.ev env).bindS fun d e => .nx (e.set i (some d)) := rfl
@[simp] theorem ev_bnil : CB.nil.ev env = .nx env := rfl
@[simp] theorem ev_bcons (s : CS) (b : CB) : (CB.cons s b).ev env = (s.ev env).seq b.ev := rfl
@[simp] theorem ev_if (t : CT) (a b : CB) : (CS.if_ t a b).ev env = (t.ev env).bindS fun c e => if c = true then a.ev e else b.ev e := rfl
@[simp] theorem ev_for (g : CG) (c : CI) (b : CB) : (CS.for_ g c b).ev env = (c.ev env).bindS fun ds e => forE g.asg b.ev ds e := rfl
@[simp] theorem ev_seq (c : CE) : (CI.seq c).ev env = (c.ev env).bindA fun d e => match iterD d with | some l => .ok l e | none => .bad := rfl
@[simp] theorem ev_range1 (a : CE) : (CI.range1 a).ev env = (a.ev env).bindA fun d e => evR1 [d] e := rfl
@[simp] theorem ev_range2 (a b : CE) : (CI.range2 a b).ev env = (a.ev env).bindA fun d e => (b.ev e).bindA fun d2 e => evR1 [d, d2] e := rfl
@[simp] theorem ev_call (x : Str) (n : Nat) (dds : List D) (F : List D → FR) (r : CC) : (CE.call x n dds F r).ev env = (r.ev env).bind fun ds e => evCall F dds r.sl ds e := rfl
@[simp] theorem ev_callF (x : Str) (n : Nat) (dds : List D) (F : List D → FR) (r : CC) : (CF.call x n dds F r).ev env = (r.ev env).bind fun ds e => evCall F dds r.sl ds e := rfl
@[simp] theorem ev_cnil : CC.nil.ev env = .ok [] env := rfl
@[simp] theorem ev_cval (c : CE) (r : CC) : (CC.val c r).ev env = (c.ev env).bindA fun d e => (r.ev e).bindA fun ds e => .ok (d :: ds) e := rfl
@[simp] theorem sl_nil : CC.nil.sl = [] := rfl
@[simp] theorem sl_val (c : CE) (r : CC) : (CC.val c r).sl = none :: r.sl := rfl
@[simp] theorem sl_ref (i : Nat) (r : CC) : (CC.ref i r).sl = some i :: r.sl := rfl
@[simp] theorem slR_nil : slR [] = [] := rfl
@[simp] theorem slR_n (l : List (Option Nat)) : slR (none :: l) = slR l := rfl
@[simp] theorem slR_s (i : Nat) (l : List (Option Nat)) : slR (some i :: l) = i :: slR l := rfl
@[simp] theorem backR_nil : backR [] [] env = some env := rfl
@[simp] theorem backR_cons (i : Nat) (l : List Nat) : backR (i :: l) (d :: ds) env = backR l ds (env.set i (some d)) := rfl
@[simp] theorem ev_mnil : CM.nil.ev env = .ok [] env := rfl
@[simp] theorem ev_mcons (c : CE) (r : CM) : (CM.cons c r).ev env = (c.ev env).bindA fun d e => (r.ev e).bindA fun ds e => .ok (d :: ds) e := rfl
@[simp] theorem ev_blt (b : Bf) (r : CM) : (CE.blt b r).ev env = (r.ev env).bind fun ds e => optE (b.f ds) e := rfl
@[simp] theorem ev_setIx (i : Nat) (ix c : CE) : (CS.setIx i ix c).ev env = (c.ev env).bindS fun d e1 => evSet i ix d e1 := rfl
@[simp] theorem ev_fld (cs : List Str) (a : CE) (f : Str) : (CE.fld cs a f).ev env = (a.ev env).bind fun d e => optE (fldD cs f d) e := rfl
@[simp] theorem ev_setFld (i : Nat) (cl f : Str) (c : CE) : (CS.setFld i cl f c).ev env = (c.ev env).bindS fun d e => match e[i]? with
    | some (some (.ins c' fs)) => if c' = cl ∧ fs.length < 1000 then .nx (e.set i (some (.ins c' (putFD f d fs)))) else .bad
    | _ => .bad := rfl
@[simp] theorem putFD_nil (f : Str) : putFD f d [] = [(f, d)] := rfl
@[simp] theorem putFD_cons (f g : Str) (x : D) : putFD f d ((g, x) :: fs) = if g = f then (g, d) :: fs else (g, x) :: putFD f d fs := rfl
@[simp] theorem fldD_ins (cs : List Str) (f : Str) : fldD cs f (.ins c fs) = if c ∈ cs then fs.lookup f else none := rfl
@[simp] theorem ev_meth (c m : Str) (n : Nat) (dds : List D) (F : List D → FR) (o : CE) (r : CC) (em : EmptyOk r) : (CE.meth c m n dds F o r em).ev env = evMe c m F dds r.sl o r env := rfl
@[simp] theorem ev_methF (c m : Str) (n : Nat) (dds : List D) (F : List D → FR) (o : CE) (r : CC) (em : EmptyOk r) : (CF.meth c m n dds F o r em).ev env = evMe c m F dds r.sl o r env := rfl
@[simp] theorem ev_methR (c m : Str) (n : Nat) (dds : List D) (F : List D → FR) (i : Nat) (r : CC) (em : EmptyOk r) : (CE.methR c m n dds F i r em).ev env = evMeR c m F dds i r env := rfl
@[simp] theorem ev_prop (c f : Str) (F : List D → FR) (o : CE) : (CE.prop c f F o).ev env = evPr c F o env := rfl
@[simp] theorem ev_propF (c f : Str) (F : List D → FR) (o : CE) : (CF.prop c f F o).ev env = evPr c F o env := rfl
@[simp] theorem ev_make (c : Str) (n : Nat) (dds : List D) (F : List D → FR) (r : CC) (em : EmptyOk r) : (CF.make c n dds F r em).ev env = (r.ev env).bind fun ds e => evMk c F dds r.sl ds e := rfl
@[simp] theorem ev_makeV (c : Str) (i n : Nat) (dds : List D) (F : List D → FR) (r : CC) (em : EmptyOk r) : (CF.makeV c i n dds F r em).ev env = evMkV c i F dds r env := rfl
@[simp] theorem ev_makeK (c : Str) (n m : Nat) (ord : List Nat) (dds : List D) (F : List D → FR) (r : CC) (kw : List (Str × CE)) (hp : r.sl.all (·.isNone) = true) (em : EmptyOk r) : (CF.makeK c n m ord dds F r kw hp em).ev env = (evMkK c F ord n m dds r kw env).bind fun d e => .ok d e := rfl
@[simp] theorem ev_eqI (c : Str) (F : List D → FR) (a b : CE) : (CE.eqI c F a b).ev env = (a.ev env).bind fun x e1 => (b.ev e1).bind fun y e2 => optE ((C.eqI c F x y).map D.bl) e2 := rfl
@[simp] theorem ev_eqIT (c : Str) (F : List D → FR) (a b : CE) : (CT.eqI c F a b).ev env = (a.ev env).bindT fun x e1 => (b.ev e1).bindT fun y e2 => optT (C.eqI c F x y) e2 := rfl
@[simp] theorem ev_lcF (l : Lc) : (CF.lc l).ev env = l.ev env := rfl
@[simp] theorem ev_setLc (i : Nat) (fz : Bool) (l : Lc) : (CS.setLc i fz l).ev env = (l.ev env).bindS fun d e => .nx (e.set i (some d)) := rfl
@[simp] theorem ev_setFc (i : Nat) (c : CF) : (CS.setFc i c).ev env = (c.ev env).bindS fun d e => .nx (e.set i (some d)) := rfl
@[simp] theorem ev_setEc (i : Nat) (c : CE) : (CS.setEc i c).ev env = (c.ev env).bindS fun d e => .nx (e.set i (some d)) := rfl
@[simp] theorem ev_raise (c : Str) (xs : List Str) (r : CC) (em : EmptyOk r) : (CS.raise_ c xs r em).ev env = (r.ev env).bindS fun ds e => .exc c (xs.zip ds).reverse e := rfl
@[simp] theorem ev_exv (c : Str) (xs : List Str) (r : CC) (em : EmptyOk r) : (CE.exv c xs r em).ev env = (r.ev env).bind fun ds e => .ok (.exc c (xs.zip ds).reverse) e := rfl
@[simp] theorem ev_try (cl : List Str) (b : CB) (l : List HC) : (CS.try_ cl b l).ev env = (b.ev env).catch_ fun c fs e => evH cl l c fs e := rfl
@[simp] theorem ev_xf (cs : List Str) (f : Str) (o : CE) : (CE.xf cs f o).ev env = (o.ev env).bind fun d e => optE (xfD cs f d) e := rfl
@[simp] theorem ev_lamc (g : GB) (lam : CE) : (CE.lamc g lam).ev env = evG g (lam.ev env) := rfl
@[simp] theorem ev_neg (a : CE) : (CE.neg a).ev env = (a.ev env).bind fun x e1 => optE (negD x) e1 := rfl
@[simp] theorem ev_fmt (a : CE) : (CE.fmt a).ev env = (a.ev env).bind fun x e1 => optE (fmtD x) e1 := rfl
@[simp] theorem ev_fstr (cs : List CE) : (CE.fstr cs).ev env = evJ cs Str.empty env := rfl
@[simp] theorem ev_fstr1 (a : CE) : (CE.fstr1 a).ev env = a.ev env := rfl
@[simp] theorem ev_one (a : CE) : (CE.one a).ev env = a.ev env := rfl
@[simp] theorem ev_and_ (a b : CE) : (CE.and_ a b).ev env = andE a b env := rfl
@[simp] theorem ev_or_ (a b : CE) : (CE.or_ a b).ev env = orE a b env := rfl
@[simp] theorem ev_notv (a : CE) : (CE.notv a).ev env = (a.ev env).bind fun x e1 => optE (notB x) e1 := rfl
@[simp] theorem ev_isi (k : CK) (an : Ans) (a : CE) : (CE.isi k an a).ev env = (a.ev env).bind fun x e1 => optE ((isiD an x).map D.bl) e1 := rfl
@[simp] theorem ev_sl (a : CE) (lo hi : Option CE) : (CE.sl a lo hi).ev env = (a.ev env).bind fun x e1 => evPart lo e1 fun l e2 => evPart hi e2 fun u e3 => optE (sliceD x l u) e3 := rfl
@[simp] theorem ev_dct (ps : List (CE × CE)) : (CF.dct ps).ev env = (evP ps [] env).bind fun d e => match d with | .dK l => .ok (.dK (mergeD [] l)) e | _ => .bad := rfl
@[simp] theorem ev_kix (x : Str) (tab : List (Key × Str)) (a : CE) : (CE.kix x tab a).ev env = (a.ev env).bind fun d e => optE (tabV tab d) e := rfl
@[simp] theorem ev_cmeth (c m : Str) (n : Nat) (dds : List D) (F : List D → FR) (r : CC) : (CE.cmeth c m n dds F r).ev env = evCm c F dds r env := rfl
@[simp] theorem ev_cmethF (c m : Str) (n : Nat) (dds : List D) (F : List D → FR) (r : CC) : (CF.cmeth c m n dds F r).ev env = evCm c F dds r env := rfl
@[simp] theorem ev_strI (c : Str) (F : List D → FR) (a : CE) : (CE.strI c F a).ev env = (a.ev env).bind fun x e1 => optE ((C.strI c F x).map D.str) e1 := rfl
@[simp] theorem ev_replIx (a : CE) (i : Int) (y z : Str) : (CE.replIx a i y z).ev env = (a.ev env).bind fun d e => optE ((fIx d (.int i)).bind (replD y z)) e := rfl
@[simp] theorem evAnd_one (t : CT) : evAnd [t] env = t.ev env := rfl
@[simp] theorem evAnd_two (t u : CT) (l : List CT) : evAnd (t :: u :: l) env = (t.ev env).bindT fun b e => if b = true then evAnd (u :: l) e else .ok false e := rfl
@[simp] theorem evOr_one (t : CT) : evOr [t] env = t.ev env := rfl
@[simp] theorem evOr_two (t u : CT) (l : List CT) : evOr (t :: u :: l) env = (t.ev env).bindT fun b e => if b = true then .ok true e else evOr (u :: l) e := rfl
@[simp] theorem ev_cref (i : Nat) (r : CC) : (CC.ref i r).ev env = match env[i]? with
    | some (some _) => (r.ev env).bindA fun ds e => match e[i]? with | some (some d) => .ok (d :: ds) e | _ => .bad
    | _ => .bad := rfl
@[simp] theorem evVar_eq (i : Nat) : evVar i env = match env[i]? with | some (some d) => .ok d env | _ => .bad := rfl
@[simp] theorem evMove_eq (i : Nat) : evMove i env = match env[i]? with | some (some d) => .ok d (env.set i none) | _ => .bad := rfl
@[simp] theorem oAdd_f (x y : D) : oAdd.f x y = fAdd x y := rfl
@[simp] theorem oSub_f (i j : Int) : oSub.f (.int i) (.int j) = some (.int (i - j)) := rfl
@[simp] theorem oMul_f (i j : Int) : oMul.f (.int i) (.int j) = if mulB i j = true then some (.int (i * j)) else none := rfl
@[simp] theorem oDiv_f (i j : Int) : oDiv.f (.int i) (.int j) = if divB j = true then some (.int (i / j)) else none := rfl
@[simp] theorem oMod_f (i j : Int) : oMod.f (.int i) (.int j) = if decide (0 < j) = true then some (.int (i % j)) else none := rfl
@[simp] theorem oPow_f (i j : Int) : oPow.f (.int i) (.int j) = if powB i j = true then some (.int (i ^ j.toNat)) else none := rfl
@[simp] theorem fAdd_int (i j : Int) : fAdd (.int i) (.int j) = some (.int (i + j)) := rfl
@[simp] theorem cLt_f (i j : Int) : cLt.f (.int i) (.int j) = some (decide (i < j)) := rfl
@[simp] theorem cLe_f (i j : Int) : cLe.f (.int i) (.int j) = some (decide (i ≤ j)) := rfl
@[simp] theorem cGt_f (i j : Int) : cGt.f (.int i) (.int j) = some (decide (j < i)) := rfl
@[simp] theorem cGe_f (i j : Int) : cGe.f (.int i) (.int j) = some (decide (j ≤ i)) := rfl
@[simp] theorem cEq_f (x y : D) : cEq.f x y = eqF x y := rfl
@[simp] theorem cNe_f (x y : D) : cNe.f x y = (eqF x y).map (!·) := rfl
@[simp] theorem bLen_lst (l : List D) : bLen.f [.lst l] = some (.int l.length) := rfl
@[simp] theorem bLen_tup (l : List D) : bLen.f [.tup l] = some (.int l.length) := rfl
@[simp] theorem bLen_scr (l : List Int) : bLen.f [.scr l] = some (.int l.length) := rfl
@[simp] theorem bInt_int (i : Int) : bInt.f [.int i] = some (.int i) := rfl
@[simp] theorem bInt_bl (k : Bool) : bInt.f [.bl k] = some (.int (if k then 1 else 0)) := rfl
theorem mulB_r {i j : Int} (h1 : -18446744073709551616 < j) (h2 : j < 18446744073709551616) : mulB i j = true := by
  unfold mulB
  have e1 : decide (-(2 ^ 64) < j) = true := decide_eq_true (by simpa using h1)
  have e2 : decide (j < 2 ^ 64) = true := decide_eq_true (by simpa using h2)
  rw [e1, e2]; simp
theorem mulB_l {i j : Int} (h1 : -18446744073709551616 < i) (h2 : i < 18446744073709551616) : mulB i j = true := by
  unfold mulB
  have e1 : decide (-(2 ^ 64) < i) = true := decide_eq_true (by simpa using h1)
  have e2 : decide (i < 2 ^ 64) = true := decide_eq_true (by simpa using h2)
  rw [e1, e2]; simp
theorem divB_of {j : Int} (h : 0 < j) (h2 : j < 1000000) : divB j = true := by
  unfold divB
  have : j.natAbs.log2 < 9000 := by
    have h3 : j.natAbs < 2 ^ 20 := by omega
    by_cases h0 : j.natAbs = 0
    · rw [h0]; decide
    · exact Nat.lt_of_lt_of_le ((Nat.log2_lt h0).mpr h3) (by decide)
  rw [decide_eq_true h, decide_eq_true this]; rfl
@[simp] theorem atI_lit {α : Type} (l : List α) (n : Nat) : atI l (@OfNat.ofNat Int n instOfNat) = l[(OfNat.ofNat n : Nat)]? := by
  show atI l (n : Int) = l[n]?
  unfold atI ixN
  have h0 : (0 : Int) ≤ n := by omega
  rw [if_pos h0]
  by_cases h : (n : Int) < l.length
  · rw [if_pos h]
    simp
  · rw [if_neg h]
    have : l.length ≤ n := by omega
    simp [this]
theorem atI_cast {α : Type} (l : List α) (n : Nat) : atI l (n : Int) = l[n]? := atI_lit l n
@[simp] theorem atI_one {α : Type} (l : List α) : atI l (1 : Int) = l[1]? := atI_lit l 1
@[simp] theorem atI_zero {α : Type} (l : List α) : atI l (0 : Int) = l[0]? := atI_lit l 0
@[simp] theorem atI_n2 {α : Type} (l : List α) : atI l (2 : Int) = l[2]? := atI_lit l 2
@[simp] theorem atI_n3 {α : Type} (l : List α) : atI l (3 : Int) = l[3]? := atI_lit l 3
@[simp] theorem atI_n4 {α : Type} (l : List α) : atI l (4 : Int) = l[4]? := atI_lit l 4
@[simp] theorem atI_n5 {α : Type} (l : List α) : atI l (5 : Int) = l[5]? := atI_lit l 5
@[simp] theorem atI_n6 {α : Type} (l : List α) : atI l (6 : Int) = l[6]? := atI_lit l 6
@[simp] theorem atI_n7 {α : Type} (l : List α) : atI l (7 : Int) = l[7]? := atI_lit l 7
@[simp] theorem atI_n8 {α : Type} (l : List α) : atI l (8 : Int) = l[8]? := atI_lit l 8
@[simp] theorem atI_n9 {α : Type} (l : List α) : atI l (9 : Int) = l[9]? := atI_lit l 9
@[simp] theorem atI_n10 {α : Type} (l : List α) : atI l (10 : Int) = l[10]? := atI_lit l 10
@[simp] theorem atI_n11 {α : Type} (l : List α) : atI l (11 : Int) = l[11]? := atI_lit l 11
@[simp] theorem atI_n12 {α : Type} (l : List α) : atI l (12 : Int) = l[12]? := atI_lit l 12
@[simp] theorem atI_n13 {α : Type} (l : List α) : atI l (13 : Int) = l[13]? := atI_lit l 13
@[simp] theorem atI_n14 {α : Type} (l : List α) : atI l (14 : Int) = l[14]? := atI_lit l 14
@[simp] theorem atI_n15 {α : Type} (l : List α) : atI l (15 : Int) = l[15]? := atI_lit l 15
@[simp] theorem atI_n16 {α : Type} (l : List α) : atI l (16 : Int) = l[16]? := atI_lit l 16
@[simp] theorem atI_n17 {α : Type} (l : List α) : atI l (17 : Int) = l[17]? := atI_lit l 17
@[simp] theorem atI_n18 {α : Type} (l : List α) : atI l (18 : Int) = l[18]? := atI_lit l 18
@[simp] theorem atI_n19 {α : Type} (l : List α) : atI l (19 : Int) = l[19]? := atI_lit l 19
@[simp] theorem atI_n20 {α : Type} (l : List α) : atI l (20 : Int) = l[20]? := atI_lit l 20
@[simp] theorem atI_n21 {α : Type} (l : List α) : atI l (21 : Int) = l[21]? := atI_lit l 21
@[simp] theorem atI_n22 {α : Type} (l : List α) : atI l (22 : Int) = l[22]? := atI_lit l 22
@[simp] theorem atI_n23 {α : Type} (l : List α) : atI l (23 : Int) = l[23]? := atI_lit l 23
@[simp] theorem fIx_lst (l : List D) (i : Int) : fIx (.lst l) (.int i) = atI l i := rfl
@[simp] theorem fIx_tup (l : List D) (i : Int) : fIx (.tup l) (.int i) = atI l i := rfl
@[simp] theorem fIx_scr (l : List Int) (i : Int) : fIx (.scr l) (.int i) = (atI l i).map D.int := rfl
@[simp] theorem eqF_int (i j : Int) : eqF (.int i) (.int j) = some (decide (i = j)) := rfl
@[simp] theorem eqF_str (i j : Str) : eqF (.str i) (.str j) = some (decide (i = j)) := rfl
@[simp] theorem eqF_bl (i j : Bool) : eqF (.bl i) (.bl j) = some (decide (i = j)) := rfl
@[simp] theorem toFR_nx (rf : List Nat) : toFR rf false (.nx env) = match outs rf env with | some os => .ret .non os | none => .bad := rfl
@[simp] theorem toFR_rt (rf : List Nat) (fr : Bool) : toFR rf fr (.rt d env) = match outs rf env with | some os => .ret d os | none => .bad := rfl
@[simp] theorem toFR_exc (rf : List Nat) (fr : Bool) : toFR rf fr (.exc c fs env) = match outs rf env with | some os => .exc c fs os | none => .bad := rfl
@[simp] theorem outs_nil : outs [] env = some [] := rfl
@[simp] theorem outs_cons (p : Nat) (r : List Nat) : outs (p :: r) env = match env[p]? with | some (some d) => (outs r env).map (d :: ·) | _ => none := rfl
@[simp] theorem eqF_lst (a b : List D) : eqF (.lst a) (.lst b) = match (datsOf a).map PyData.list, (datsOf b).map PyData.list with | some p, some q => if SeqAt.shaped p && SeqAt.shaped q then some (PyData.eqv p q) else none | _, _ => none := rfl
@[simp] theorem eqF_tup (a b : List D) : eqF (.tup a) (.tup b) = match (datsOf a).map PyData.tuple, (datsOf b).map PyData.tuple with | some p, some q => if SeqAt.shaped p && SeqAt.shaped q then some (PyData.eqv p q) else none | _, _ => none := rfl
@[simp] theorem datsOf_nil : datsOf [] = some [] := rfl
@[simp] theorem datsOf_cons (d : D) (l : List D) : datsOf (d :: l) = match datOf d, datsOf l with | some x, some r => some (x :: r) | _, _ => none := rfl
@[simp] theorem datOf_int (i : Int) : datOf (.int i) = some (.int i) := rfl
@[simp] theorem datOf_str (i : Str) : datOf (.str i) = some (.str i) := rfl
@[simp] theorem datOf_bl (i : Bool) : datOf (.bl i) = some (.bool i) := rfl
@[simp] theorem datOf_non : datOf .non = some .none := rfl
@[simp] theorem datOf_tup (l : List D) : datOf (.tup l) = (datsOf l).map .tuple := rfl
@[simp] theorem datOf_lst (l : List D) : datOf (.lst l) = (datsOf l).map .list := rfl
/-- a for loop keeps what its turns keep -/
theorem forE_inv {g : D → Env → Option Env} {b : Env → SR} (P : Env → Prop) : ∀ (ds : List D) (env : Env), P env → (∀ x ∈ ds, ∀ e, P e → ∃ e1 e2, g x e = some e1 ∧ (b e1 = .nx e2 ∨ b e1 = .ct e2) ∧ P e2) → ∃ e', forE g b ds env = .nx e' ∧ P e'
  | [], env, h, _ => ⟨env, rfl, h⟩
  | x :: l, env, h, k => by
    obtain ⟨e1, e2, h1, h2, h3⟩ := k x List.mem_cons_self env h
    obtain ⟨e', h4, h5⟩ := forE_inv P l e2 h3 fun y hy => k y (List.mem_cons_of_mem _ hy)
    refine ⟨e', ?_, h5⟩
    unfold forE
    rw [h1]
    rcases h2 with h2 | h2 <;> simp only [h2] <;> exact h4
@[simp] theorem evJ_nil (acc : Str) : evJ [] acc env = .ok (.str acc) env := rfl
@[simp] theorem evJ_cons (c : CE) (cs : List CE) (acc : Str) : evJ (c :: cs) acc env = (c.ev env).bind fun x e1 => match x with | .str y => if (acc ++ y).length ≤ sizeLine then evJ cs (acc ++ y) e1 else .bad | _ => .bad := rfl
@[simp] theorem evP_nil (acc : List (Key × D)) : evP [] acc env = .ok (.dK acc) env := rfl
@[simp] theorem evP_cons (k v : CE) (r : List (CE × CE)) (acc : List (Key × D)) : evP ((k, v) :: r) acc env = (k.ev env).bind fun dk e1 => match keyD dk with | none => .bad | some kk => (v.ev e1).bind fun dv e2 => evP r (acc ++ [(kk, dv)]) e2 := rfl
@[simp] theorem keyD_str (x : Str) : keyD (.str x) = some (.inr x) := rfl
@[simp] theorem keyD_int (x : Int) : keyD (.int x) = some (.inl x) := rfl
@[simp] theorem ev_dget2 (o a b : CE) : (CE.dget2 o a b).ev env = (o.ev env).bind fun x e1 => match x with
    | .dK _ => (a.ev e1).bind fun y e2 => (b.ev e2).bind fun z e3 => optE (dgetD x y z) e3
    | .dT _ => (a.ev e1).bind fun y e2 => (b.ev e2).bind fun z e3 => optE (dgetD x y z) e3
    | _ => .bad := rfl
@[simp] theorem dgetD_K (l : List (Key × D)) (k : D) : dgetD (.dK l) k d = (keyD k).map fun k => (valD l k).getD d := rfl
/-- the text of an int -/
def txI (i : Int) : Str := Str.ofString (toString i)
@[simp] theorem fmtD_str (y : Str) : fmtD (.str y) = if y.length ≤ sizeLine then some (.str y) else none := rfl
@[simp] theorem fmtD_int (i : Int) : fmtD (.int i) = if i.natAbs.log2 < 1920 then some (.str (txI i)) else none := rfl
@[simp] theorem bStr_int (i : Int) : bStr.f [.int i] = if i.natAbs.log2 < 1920 then some (.str (txI i)) else none := rfl
@[simp] theorem bStr_str (i : Str) : bStr.f [.str i] = some (.str i) := rfl
@[simp] theorem fAdd_str (i j : Str) : fAdd (.str i) (.str j) = if i.length + j.length ≤ sizeLine then some (.str (i ++ j)) else none := rfl
@[simp] theorem fAdd_lst (i j : List D) : fAdd (.lst i) (.lst j) = if i.length + j.length ≤ sizeLine then some (.lst (i ++ j)) else none := rfl
@[simp] theorem fAdd_tup (i j : List D) : fAdd (.tup i) (.tup j) = if i.length + j.length ≤ sizeLine then some (.tup (i ++ j)) else none := rfl
@[simp] theorem negD_int (i : Int) : negD (.int i) = some (.int (-i)) := rfl
@[simp] theorem notB_bl (i : Bool) : notB (.bl i) = some (.bl (!i)) := rfl
@[simp] theorem truN_bl (i : Bool) : truN (.bl i) = some i := rfl
@[simp] theorem andE_eq (a b : CE) : andE a b env = (a.ev env).bind fun x e1 => match x with | .bl true => b.ev e1 | .bl false => .ok (.bl false) e1 | _ => .bad := rfl
@[simp] theorem orE_eq (a b : CE) : orE a b env = (a.ev env).bind fun x e1 => match x with | .bl false => b.ev e1 | .bl true => .ok (.bl true) e1 | _ => .bad := rfl
end
/-! ### texts -/
theorem str_app (x y : Str) : x ++ y = ⟨x.cps ++ y.cps⟩ := rfl
theorem str_len_app (x y : Str) : (x ++ y).length = x.length + y.length := by
  show (x.cps ++ y.cps).size = x.cps.size + y.cps.size
  simp
@[simp] theorem str_empty_app (x : Str) : Str.empty ++ x = x := by
  cases x; rw [str_app]; simp [Str.empty]
theorem str_app_assoc (x y z : Str) : (x ++ y) ++ z = x ++ (y ++ z) := by
  simp only [str_app, Array.append_assoc]
@[simp] theorem ofS_empty_app (x : Str) : Str.ofString "" ++ x = x := str_empty_app x
@[simp] theorem ofS_app_empty (x : Str) : x ++ Str.ofString "" = x := by
  cases x; rw [str_app]; simp [show (Str.ofString "").cps = #[] from rfl]
/-- small enough to be told -/
def Sm (i : Int) : Prop := -(10 ^ 40) < i ∧ i < 10 ^ 40
theorem Sm.log {i : Int} (h : Sm i) : i.natAbs.log2 < 1920 := by
  by_cases h0 : i.natAbs = 0
  · rw [h0]; decide
  · refine Nat.lt_of_lt_of_le ((Nat.log2_lt (k := 200) h0).mpr ?_) (by decide)
    obtain ⟨h1, h2⟩ := h
    have : i.natAbs < 10 ^ 40 := by omega
    exact Nat.lt_of_lt_of_le this (by decide)
theorem Sm.len {i : Int} (h : Sm i) : (txI i).length ≤ 1921 := by
  show (Str.ofString (toString i)).length ≤ 1921
  have := int_text_length_le (a := i) (k := 1920) (by decide) h.log
  rw [show (Str.ofString (toString i)).length = (toString i).length from by
    rw [Str.ofString_eq_toList]
    show ((toString i).toList.map Char.toNat).toArray.size = _
    simp [String.length_toList]]
  exact this
end C

set_option maxRecDepth 100000
set_option maxHeartbeats 4000000
namespace C
open PySem L2
/-! ### a, b = x, y -/
def isStar : Expr → Bool
  | .Starred .. => true
  | _ => false
/-- whether the stores are exchanged: the names then, from the left -/
def swapQ (sc : SC) (ts vs : List Expr) : Option (Option (List Str)) :=
  if !(ts.length == 2 || ts.length == 3) || vs.length != ts.length then some none
  else if vs.any (fun e => match e with | .Starred .. => true | _ => false) then some none
  else
    let line := (ts.head?.map (·.pos.line)).getD 0
    let names := ts.filterMap fun e => match e with
      | .Name id pos => if sc.kd id == some .local && pos.line == line then some id else none
      | _ => none
    if names.length != ts.length || names.eraseDups.length != names.length then some none
    else if vs.all (foldedForSure 8) then some none
    else if vs.all (constantsAlone 8) then none
    else some (some names)
theorem swapQ_ok {sc : SC} {X : Cx} {ts vs : List Expr} {k1 k2 p1 p2} {r : Option (List Str)} (h : swapQ sc ts vs = some r) (k : XOk sc X) : swappedStores [.Tuple ts k1 p1] (.Tuple vs k2 p2) X.env = pure r := by
  have hb : (X.env.blockKind != .function) = false := by
    unfold PySem.Env.blockKind
    rw [k.fk]
    rfl
  have hn : (ts.filterMap fun e => match e with
      | .Name id pos => if sc.kd id == some .local && pos.line == (ts.head?.map (·.pos.line)).getD 0 then some id else none
      | _ => none) = ts.filterMap fun e => match e with
      | .Name id pos => if X.env.kindOf id == some .local && pos.line == (ts.head?.map (·.pos.line)).getD 0 then some id else none
      | _ => none := by
    congr 1
    funext e
    cases e with
    | Name id pos =>
      show (if sc.kd id == some .local && _ then some id else none) = (if X.env.kindOf id == some .local && _ then some id else none)
      unfold PySem.Env.kindOf
      rw [k.kd id]
    | _ => rfl
  unfold swapQ at h
  simp only at h
  rw [hn] at h
  generalize hm : (ts.filterMap fun e => match e with
      | .Name id pos => if X.env.kindOf id == some .local && pos.line == (ts.head?.map (·.pos.line)).getD 0 then some id else none
      | _ => none) = nm at h
  unfold swappedStores
  simp only [hb, Bool.or_false, pure_bind]
  split
  · rename_i c1
    rw [if_pos c1] at h
    cases h
    rfl
  · rename_i c1
    rw [if_neg c1] at h
    split
    · rename_i c2
      rw [if_pos (show (vs.any fun e => match e with | .Starred .. => true | _ => false) = true from c2)] at h
      cases h
      rfl
    · rename_i c2
      rw [if_neg (show ¬ (vs.any fun e => match e with | .Starred .. => true | _ => false) = true from c2)] at h
      split
      · rename_i c3
        rw [if_pos (show (nm.length != ts.length || nm.eraseDups.length != nm.length) = true from by rw [← hm]; exact c3)] at h
        cases h
        rfl
      · rename_i c3
        rw [if_neg (show ¬ (nm.length != ts.length || nm.eraseDups.length != nm.length) = true from by rw [← hm]; exact c3)] at h
        split
        · rename_i c4
          rw [if_pos c4] at h
          cases h
          rfl
        · rename_i c4
          rw [if_neg c4] at h
          split
          · rename_i c5
            rw [if_pos c5] at h
            cases h
          · rename_i c5
            rw [if_neg c5] at h
            cases h
            rw [← hm]
            rfl
/-- a, b, .. = x, y, ..: a tuple is made and taken apart -/
def CS.asgP (l : List CG) (c : CE) : CS where
  chk sc e := match e with
    | .Assign [.Tuple ts k1 p1] (.Tuple vs k2 p2) _ => c.bor.isNone && ((match swapQ sc ts vs with | some none => true | _ => false) && ((CG.tup l).chk sc (.Tuple ts k1 p1) && c.chk sc (.Tuple vs k2 p2)))
    | _ => false
  req := c.req
  ev env := (c.ev env).bindS fun d e => match (CG.tup l).asg d e with | some e' => .nx e' | none => .bad
  sound sc X e W hc k q tk _ := by
    split at hc
    · rename_i ts k1 p1 vs k2 p2 pos
      obtain ⟨h1, h⟩ := and3 hc
      obtain ⟨h3, h⟩ := and3 h
      obtain ⟨h4, h5⟩ := and3 h
      have hw : swappedStores [.Tuple ts k1 p1] (.Tuple vs k2 p2) X.env = pure none := by
        split at h3
        · rename_i e3; exact swapQ_ok e3 k
        · cases h3
      refine (ps_asg (c.sound sc X _ W h5 k q tk) ((CG.tup l).sound sc X _ h4 k) rfl hw rfl).imp fun D σ H h => ?_
      have hb : c.bor = none := by simpa using h1
      obtain ⟨fx, L, G, env, R, h⟩ := h
      refine ⟨fx, L, G, env, R, ER.post_mono (ER.post_bindS h) (fun d e1 _ h v H1 G1 R1 s1 r1 => ?_) (XWs.at σ)⟩
      rw [hb] at r1
      refine ⟨fx, L, G1, e1, d, R1, r1, ?_⟩
      cases ea : (CG.tup l).asg d e1 with
      | none => rw [ea] at h; exact h
      | some e2 =>
        rw [ea] at h
        exact fun σ' R2 _ => h σ' H1 G1 R2 s1
    · cases hc
def CS.par2 (i j : Nat) (a : CA) : CS where
  chk sc e := match e with
    | .Assign [.Tuple [.Name x px, .Name y py] k1 p1] (.Tuple [a1, a2] k2 p2) _ => sc.calm && (decide (sc.N[i]? = some x) && (decide (sc.N[j]? = some y) && (decide (i ≠ j) && (!sc.ow.contains i && (!sc.ow.contains j && (decide (sc.kd x = some .local) && (decide (sc.kd y = some .local) && (decide (swapQ sc [.Name x px, .Name y py] [a1, a2] = some (some [x, y])) && a.chk sc [a1, a2]))))))))
    | _ => false
  req := a.req
  ev env := match a.ev env with
    | .ok [u, v] e => .nx ((e.set i (some u)).set j (some v))
    | .exc c fs e => .exc c fs e
    | _ => .bad
  sound sc X e W hc k q tk _ := by
    split at hc
    · rename_i x px y py k1 p1 a1 a2 k2 p2 pos
      obtain ⟨h0, h⟩ := and3 hc
      obtain ⟨h1, h⟩ := and3 h
      obtain ⟨h2, h⟩ := and3 h
      obtain ⟨h3, h⟩ := and3 h
      obtain ⟨h4, h⟩ := and3 h
      obtain ⟨h5, h⟩ := and3 h
      obtain ⟨h6, h⟩ := and3 h
      obtain ⟨h7, h⟩ := and3 h
      obtain ⟨h8, h9⟩ := and3 h
      have n4 : i ∉ sc.ow := by simpa using h4
      have n5 : j ∉ sc.ow := by simpa using h5
      refine (ps_par (k.calm.trans h0) k.nd (by rw [k.N]; exact of_decide_eq_true h1) (by rw [k.N]; exact of_decide_eq_true h2) (of_decide_eq_true h3) (by rw [k.kd]; exact of_decide_eq_true h6) (by rw [k.kd]; exact of_decide_eq_true h7) (a.sound sc X _ W h9 k q tk) (swapQ_ok (of_decide_eq_true h8) k)).imp fun D σ H h => ?_
      obtain ⟨fx, L, G, env, R, h⟩ := h
      refine ⟨fx, L, G, env, R, ?_⟩
      dsimp only at h
      cases ea : a.ev env with
      | bad => rw [ea] at h; exact h
      | exc c fs e => rw [ea] at h; exact XWs.at σ c fs e h
      | ok ds e1 =>
        rw [ea] at h
        match ds, h with
        | [u, v], h =>
          intro vs H1 G1 R1 s1 r1
          obtain ⟨x1, t, rfl, r2, r3⟩ := r1
          obtain ⟨x2, t, rfl, r4, r5⟩ := r3
          cases r5
          exact ⟨x1, x2, rfl, h _ H1 G1 ((R1.set n4 r2).set n5 r4) s1⟩
        | [], h => exact h.elim
        | [_], h => exact h.elim
        | _ :: _ :: _ :: _, h => exact h.elim
    · cases hc
def CS.par3 (i j l : Nat) (a : CA) : CS where
  chk sc e := match e with
    | .Assign [.Tuple [.Name x px, .Name y py, .Name z pz] k1 p1] (.Tuple [a1, a2, a3] k2 p2) _ => sc.calm && (decide (sc.N[i]? = some x) && (decide (sc.N[j]? = some y) && (decide (sc.N[l]? = some z) && (decide (i ≠ j) && (decide (i ≠ l) && (decide (j ≠ l) && (!sc.ow.contains i && (!sc.ow.contains j && (!sc.ow.contains l && (decide (sc.kd x = some .local) && (decide (sc.kd y = some .local) && (decide (sc.kd z = some .local) && (decide (swapQ sc [.Name x px, .Name y py, .Name z pz] [a1, a2, a3] = some (some [x, y, z])) && a.chk sc [a1, a2, a3])))))))))))))
    | _ => false
  req := a.req
  ev env := match a.ev env with
    | .ok [u, v, w] e => .nx (((e.set i (some u)).set j (some v)).set l (some w))
    | .exc c fs e => .exc c fs e
    | _ => .bad
  sound sc X e W hc k q tk _ := by
    split at hc
    · rename_i x px y py z pz k1 p1 a1 a2 a3 k2 p2 pos
      obtain ⟨h0, h⟩ := and3 hc
      obtain ⟨h1, h⟩ := and3 h
      obtain ⟨h2, h⟩ := and3 h
      obtain ⟨h2', h⟩ := and3 h
      obtain ⟨h3, h⟩ := and3 h
      obtain ⟨h3', h⟩ := and3 h
      obtain ⟨h3'', h⟩ := and3 h
      obtain ⟨h4, h⟩ := and3 h
      obtain ⟨h5, h⟩ := and3 h
      obtain ⟨h5', h⟩ := and3 h
      obtain ⟨h6, h⟩ := and3 h
      obtain ⟨h7, h⟩ := and3 h
      obtain ⟨h7', h⟩ := and3 h
      obtain ⟨h8, h9⟩ := and3 h
      have n4 : i ∉ sc.ow := by simpa using h4
      have n5 : j ∉ sc.ow := by simpa using h5
      have n6 : l ∉ sc.ow := by simpa using h5'
      refine (ps_par3 (k.calm.trans h0) k.nd (by rw [k.N]; exact of_decide_eq_true h1) (by rw [k.N]; exact of_decide_eq_true h2) (by rw [k.N]; exact of_decide_eq_true h2') (of_decide_eq_true h3) (of_decide_eq_true h3') (of_decide_eq_true h3'') (by rw [k.kd]; exact of_decide_eq_true h6) (by rw [k.kd]; exact of_decide_eq_true h7) (by rw [k.kd]; exact of_decide_eq_true h7') (a.sound sc X _ W h9 k q tk) (swapQ_ok (of_decide_eq_true h8) k)).imp fun D σ H h => ?_
      obtain ⟨fx, L, G, env, R, h⟩ := h
      refine ⟨fx, L, G, env, R, ?_⟩
      dsimp only at h
      cases ea : a.ev env with
      | bad => rw [ea] at h; exact h
      | exc c fs e => rw [ea] at h; exact XWs.at σ c fs e h
      | ok ds e1 =>
        rw [ea] at h
        match ds, h with
        | [u, v, w], h =>
          intro vs H1 G1 R1 s1 r1
          obtain ⟨x1, t, rfl, r2, r3⟩ := r1
          obtain ⟨x2, t, rfl, r4, r5⟩ := r3
          obtain ⟨x3, t, rfl, r6, r7⟩ := r5
          cases r7
          exact ⟨x1, x2, x3, rfl, h _ H1 G1 (((R1.set n4 r2).set n5 r4).set n6 r6) s1⟩
        | [], h => exact h.elim
        | [_], h => exact h.elim
        | [_, _], h => exact h.elim
        | _ :: _ :: _ :: _ :: _, h => exact h.elim
    · cases hc
/-! ### x op= e, ints -/
structure Aug (op : Operator) where
  f : Int → Int → Option Int
  ok : ∀ X : Cx, PIp X op (fun x y H Q => ∃ i j n, x = .int i ∧ y = .int j ∧ f i j = some n ∧ Q (.int n) H)
def aAdd : Aug .Add := ⟨fun i j => some (i + j), fun X pins s σ H x y v u Q I r1 r2 ⟨i, j, n, h1, h2, h3, q⟩ => by cases h3; exact ip_add pins s σ H x y v u Q I r1 r2 ⟨i, j, h1, h2, q⟩⟩
def aSub : Aug .Sub := ⟨fun i j => some (i - j), fun X pins s σ H x y v u Q I r1 r2 ⟨i, j, n, h1, h2, h3, q⟩ => by cases h3; exact ip_sub pins s σ H x y v u Q I r1 r2 ⟨i, j, h1, h2, q⟩⟩
def mulOkB (i j : Int) : Bool := decide (i.natAbs.log2 + j.natAbs.log2 < 1000000)
def aMul : Aug .Mult := ⟨fun i j => if mulOkB i j = true then some (i * j) else none, fun X pins s σ H x y v u Q I r1 r2 ⟨i, j, n, h1, h2, h3, q⟩ => by
  split at h3
  · rename_i hm
    cases h3
    subst h1 h2
    obtain ⟨t, rfl⟩ := r1
    obtain ⟨t', rfl⟩ := r2
    exact PyProof.Rows.imul_int ⟨.int _, H, I.tok _, ⟨_, rfl⟩, q⟩ (CMulW.ok (show i.natAbs.log2 + j.natAbs.log2 < 1000000 from of_decide_eq_true hm))
  · cases h3⟩
def CS.aug {op : Operator} (o : Aug op) (i : Nat) (c : CE) : CS where
  chk sc e := match e with | .AugAssign (.Name x _) p v _ => opEq p op && (chkLoc sc i x && (!sc.ow.contains i && (c.bor.isNone && c.chk sc v))) | _ => false
  req := c.req
  ev env := match env[i]? with
    | some (some (.int a)) => (c.ev env).bindS fun d e => match d with
      | .int b => (match o.f a b with | some n => .nx (e.set i (some (.int n))) | none => .bad)
      | _ => .bad
    | _ => .bad
  sound sc X e W hc k q tk _ := by
    split at hc
    · rename_i x px p v pos
      obtain ⟨h1, h⟩ := and3 hc
      obtain ⟨h2, h⟩ := and3 h
      obtain ⟨h3, h⟩ := and3 h
      obtain ⟨h4, h5⟩ := and3 h
      have e1 := opEq_ok h1
      subst e1
      have hb : c.bor = none := by simpa using h4
      have n3 : i ∉ sc.ow := by simpa using h3
      obtain ⟨g1, g2, g3⟩ := chkLoc_ok h2 k
      refine (ps_aug k.nd g1 g2 (c.sound sc X _ W h5 k q tk) (o.ok X) g3).imp fun D σ H h => ?_
      obtain ⟨fx, L, G, env, R, h⟩ := h
      dsimp only at h
      split at h
      · rename_i a ea
        obtain ⟨w, e2, e3⟩ := R.frz i _ n3 ea
        cases e3
        refine ⟨_, e2, fx, L, G, env, R, ER.post_mono (ER.post_bindS h) (fun d e1 hev h v H1 G1 R1 s1 r1 => ?_) (XWs.at σ)⟩
        clear hev
        rw [hb] at r1
        split at h
        · rename_i b
          split at h
          · rename_i n en
            cases r1
            exact ⟨a, b, n, rfl, rfl, en, h _ H1 G1 (R1.set n3 rfl) s1⟩
          · exact h.elim
        · exact h.elim
      · exact h.elim
    · cases hc
end C

set_option maxRecDepth 100000
set_option maxHeartbeats 4000000
namespace C
open PySem L2
/-! ### from here on a name's object is frozen -/
def less1 (sc : SC) (i : Nat) : SC := { sc with ow := sc.ow.filter fun j => !decide (j = i) }
theorem less1_mem {sc : SC} {i j : Nat} : j ∈ (less1 sc i).ow ↔ j ∈ sc.ow ∧ j ≠ i := by
  unfold less1
  simp [List.mem_filter]
theorem getset_none {α : Type} {l : List (Option α)} {i j : Nat} {d : α} (h : (l.set i none)[j]? = some (some d)) : j ≠ i ∧ l[j]? = some (some d) := by
  by_cases e : i = j
  · subst e
    by_cases hl : i < l.length
    · rw [List.getElem?_set_self hl] at h; cases h
    · rw [List.getElem?_eq_none (by simpa using hl)] at h; cases h
  · rw [List.getElem?_set_ne e] at h
    exact ⟨fun z => e z.symm, h⟩
theorem Rel.shrink {sc : SC} {K : Fg} {f : Fx} {L : List Addr} {G H : Hp} {σ : St} {env : Env} {i : Nat} (R : Rel sc K f L G H σ (env.set i none)) (hi : i ∉ sc.rp) : Rel (less1 sc i) K f L G H σ (env.set i none) := by
  refine ⟨R.sub, R.frm, R.new, R.g0, R.dom, R.lk, R.len, fun j d hj e => ?_, fun j d hj e => R.own j d (less1_mem.mp hj).1 e, fun j k dj dk a hj hk => R.dis j k dj dk a (less1_mem.mp hj).1 (less1_mem.mp hk).1, R.par, fun p hp => less1_mem.mpr ⟨R.rpo p hp, fun z => hi (z ▸ hp)⟩, fun p hp => R.lim p (less1_mem.mp hp).1, R.gf, R.tab⟩
  have hne := (getset_none e).1
  exact R.frz j d (fun z => hj (less1_mem.mpr ⟨z, hne⟩)) e
theorem Rel.widen {sc : SC} {K : Fg} {f : Fx} {L : List Addr} {G H : Hp} {σ : St} {env : Env} {i : Nat} (R : Rel (less1 sc i) K f L G H σ env) (hl : i < env.length) : Rel sc K f L G H σ (env.set i none) := by
  refine ⟨R.sub, R.frm, R.new, R.g0, R.dom, R.lk, by rw [List.length_set]; exact R.len, fun j d hj e => ?_, fun j d hj e => ?_, fun j k dj dk a hj hk ej ek => ?_, R.par, fun p hp => (less1_mem.mp (R.rpo p hp)).1, fun p hp => ?_, R.gf, R.tab⟩
  · obtain ⟨h1, h2⟩ := getset_none e
    exact R.frz j d (fun z => hj (less1_mem.mp z).1) h2
  · obtain ⟨h1, h2⟩ := getset_none e
    exact R.own j d (less1_mem.mpr ⟨hj, h1⟩) h2
  · obtain ⟨h1, h2⟩ := getset_none ej
    obtain ⟨h3, h4⟩ := getset_none ek
    exact R.dis j k dj dk a (less1_mem.mpr ⟨hj, h1⟩) (less1_mem.mpr ⟨hk, h3⟩) h2 h4
  · by_cases e : p = i
    · subst e; rw [← R.len]; exact hl
    · exact R.lim p (less1_mem.mpr ⟨hp, e⟩)
theorem FrRel.widen {sc : SC} {K : Fg} {f : Fx} {L : List Addr} {G H : Hp} {σ : St} {env : Env} {i : Nat} {d : D} {v : V} (h : FrRel (less1 sc i) K f L G H σ env d v) : FrRel sc K f L G H σ (env.set i none) d v := by
  obtain ⟨a, o, k1, k2, k3, k4, k5, k6, k7, k8⟩ := h
  refine ⟨a, o, k1, k2, k3, k4, k5, k6, k7, fun j d' hj e => ?_⟩
  obtain ⟨h1, h2⟩ := getset_none e
  exact k8 j d' (less1_mem.mpr ⟨hj, h1⟩) h2
def dropR (i : Nat) : SR → SR
  | .nx e => if i < e.length then .nx (e.set i none) else .bad
  | .rt d e => if i < e.length then .rt d (e.set i none) else .bad
  | .bk e => if i < e.length then .bk (e.set i none) else .bad
  | .ct e => if i < e.length then .ct (e.set i none) else .bad
  | .exc c fs e => if i < e.length then .exc c fs (e.set i none) else .bad
  | .bad => .bad
def CB.frz (i : Nat) (b : CB) : CB where
  chk sc es := sc.ow.contains i && (!sc.rp.contains i && b.chk (less1 sc i) es)
  req := b.req
  ev env := match env[i]? with
    | some (some _) => dropR i (b.ev env)
    | _ => .bad
  sound sc X e W hc k q tk pw := by
    obtain ⟨h1, h⟩ := and3 hc
    obtain ⟨h2, h3⟩ := and3 h
    have m1 : i ∈ sc.ow := by simpa using h1
    have m2 : i ∉ sc.rp := by simpa using h2
    have k' : XOk (less1 sc i) X := ⟨k.N, k.nd, k.kd, k.calm, k.fnl, k.un, k.fk, k.stk, k.cod⟩
    refine (b.sound (less1 sc i) X e W h3 k' q tk pw).imp fun D σ H h => ?_
    obtain ⟨fx, L, G, env, R, h⟩ := h
    dsimp only at h
    split at h
    · rename_i d ed
      obtain ⟨v, ev, fr⟩ := R.take m1 m2 ed
      obtain ⟨G1, R1, s1, rep⟩ := (R.drop i).freeze fr
      have R2 := (R1.shrink m2).set (i := i) (d := d) (v := v) (fun z => (less1_mem.mp z).2 rfl) rep
      have hl : i < env.length := (List.getElem?_eq_some_iff.mp ed).1
      have hl2 : i < σ.length := (List.getElem?_eq_some_iff.mp ev).1
      have e1 : (env.set i none).set i (some d) = env := by
        apply List.ext_getElem?
        intro j
        by_cases hj : i = j
        · subst hj; rw [List.getElem?_set_self (by simpa using hl), ed]
        · rw [List.getElem?_set_ne hj, List.getElem?_set_ne hj]
      have e2 : σ.set i (some v) = σ := by
        apply List.ext_getElem?
        intro j
        by_cases hj : i = j
        · subst hj; rw [List.getElem?_set_self hl2, ev]
        · rw [List.getElem?_set_ne hj]
      rw [e1, e2] at R2
      refine ⟨fx, L, G1, env, R2, ?_⟩
      cases er : b.ev env with
      | bad => rw [er] at h; exact h
      | nx e' =>
        rw [er] at h
        unfold dropR at h
        dsimp only at h
        split at h
        · rename_i hle
          exact fun σ' H' G' R' s' => h σ' H' G' (R'.widen hle) (s1.trans s')
        · exact h.elim
      | bk e' =>
        rw [er] at h
        unfold dropR at h
        dsimp only at h
        split at h
        · rename_i hle
          exact fun σ' H' G' R' s' => h σ' H' G' (R'.widen hle) (s1.trans s')
        · exact h.elim
      | ct e' =>
        rw [er] at h
        unfold dropR at h
        dsimp only at h
        split at h
        · rename_i hle
          exact fun σ' H' G' R' s' => h σ' H' G' (R'.widen hle) (s1.trans s')
        · exact h.elim
      | rt d' e' =>
        rw [er] at h
        unfold dropR at h
        dsimp only at h
        split at h
        · rename_i hle
          intro v' σ' H' G' R' s' r'
          refine h v' σ' H' G' (R'.widen hle) (s1.trans s') ?_
          unfold RtRel at r' ⊢
          by_cases hf : sc.fr = true
          · rw [if_pos hf]
            have hf' : (less1 sc i).fr = true := hf
            rw [if_pos hf'] at r'
            exact r'.widen
          · rw [if_neg hf]
            have hf' : ¬ (less1 sc i).fr = true := hf
            rw [if_neg hf'] at r'
            exact r'
        · exact h.elim
      | exc c fs e' =>
        rw [er] at h
        unfold dropR at h
        dsimp only at h
        split at h
        · rename_i hle
          exact fun σ' H' G' cls dd R' s' xr => h σ' H' G' cls dd (R'.widen hle) (s1.trans s') xr
        · exact h.elim
    · exact h.elim
end C

set_option maxRecDepth 100000
set_option maxHeartbeats 4000000
namespace C
open PySem L2
/-! ### methods of built-in values -/
def rMv (K : Fg) (f : D → List D → Option D) : V → List V → Hp → VK → Prop := fun x xs H Q => ∃ G d ds, Le G H ∧ VW K G H d x ∧ Paired (fun d x => VW K G H d x) ds xs ∧ match f d ds with
  | some r => ∀ v H' G', Nw G G' H H' → Rep K G' r v → Q v H'
  | none => False
theorem rMv_some {K : Fg} {f : D → List D → Option D} {x : V} {xs : List V} {H : Hp} {Q : VK} (h : rMv K f x xs H Q) : ∃ G d ds r, Le G H ∧ VW K G H d x ∧ Paired (fun d x => VW K G H d x) ds xs ∧ f d ds = some r ∧ ∀ v H' G', Nw G G' H H' → Rep K G' r v → Q v H' := by
  obtain ⟨G, d, ds, a, b, c, h⟩ := h
  cases e : f d ds with
  | none => rw [e] at h; exact h.elim
  | some r => rw [e] at h; exact ⟨G, d, ds, r, a, b, c, e, h⟩
structure Bm where
  name : Str
  T : String
  id : String
  f : D → List D → Option D
  ty : D → Bool
  pa : PlainAttrs T
  slot : Slot T name id
  hty : typeOf (.builtin id) = pure (.type "method_descriptor")
  tyOk : ∀ K G H d x, Le G H → VW K G H d x → ty d = true → tyV K T x H
  ok : ∀ X : Cx, X.calm = true → X.A.units + 100 < cLine → ∀ W, Takes X W → MtS X id (fun _ => rMv X.K f)
def CE.bm (b : Bm) (o : CE) (r : CM) : CE where
  chk sc e := match e with
    | .Call (.Attribute x g ap) (y :: ys) [] cp => sc.calm && (decide (g = b.name) && (notSup x && ((ap.endLine == cp.line) && (decide ((y :: ys).length < 30) && ((o.bor.isNone || r.pur) && (o.chk sc x && r.chk sc (y :: ys)))))))
    | _ => false
  req z := o.req z ∧ r.req z
  bor := none
  pur := false
  ev env := (o.ev env).bind fun d e1 => if b.ty d = true then (r.ev e1).bind fun ds e2 => optE (b.f d ds) e2 else .bad
  pok h := by cases h
  bok i h := by cases h
  sound sc X e W hc k q tk := by
    split at hc
    · rename_i x g ap y ys cp
      obtain ⟨h0, h⟩ := and3 hc
      obtain ⟨h1, h⟩ := and3 h
      obtain ⟨h2, h⟩ := and3 h
      obtain ⟨h3, h⟩ := and3 h
      obtain ⟨h4, h⟩ := and3 h
      obtain ⟨h5, h⟩ := and3 h
      obtain ⟨h6, h7⟩ := and3 h
      have eg := of_decide_eq_true h1
      subst eg
      have ns := r.star sc _ h7
      have hns := ns
      rw [List.all_cons] at ns
      have hfew : ((backTo cp (starEach (y :: ys) X.env)).all (fun x => !x.1) && (backToKw cp (keywordEach [] X.env)).all (fun x => x.1.isSome) && decide ((y :: ys).length + ([] : List Keyword).length + (if ([] : List Keyword).isEmpty then 0 else 1) < 30)) = true := by
        have a1 : (backTo cp (starEach (y :: ys) X.env)).all (fun x => !x.1) = true := by
          have := nostar_any (env := X.env) (pos := cp) hns
          rw [List.all_eq_not_any_not]
          simpa using this
        have a2 : (backToKw cp (keywordEach [] X.env)).all (fun x => x.1.isSome) = true := rfl
        rw [a1, a2]
        simpa using h4
      refine (pe_bmS b.pa b.slot b.hty (b.ok X (k.calm.trans h0) k.un W tk) (o.sound sc X x W h6 k q.1 tk) (r.sound sc X _ W h7 k q.2 tk) (notSup_ok h2) hfew h3 (notStar_ok (and3 ns).1) (nostar_any (and3 ns).2)).imp fun σ H Q h => ?_
      obtain ⟨fx, L, G, env, R, h⟩ := h
      refine ⟨fx, L, G, env, R, ER.post_mono (ER.post_bind h) (fun d e1 _ h v H1 G1 R1 s1 v1 => ?_) fun _ _ _ h => h⟩
      by_cases ht : b.ty d = true
      · rw [if_pos ht] at h
        refine ⟨b.tyOk X.K G1 H1 d v R1.le (R1.vw v1) ht, fx, L, G1, e1, R1, AR.post_mono (AR.post_bind h) (fun ds e2 eb h vs H2 G2 R2 s2 ar => ?_) (XW.mono s1)⟩
        obtain ⟨res, ef, h⟩ := optE_post h
        have hv : VW X.K G2 H2 d v := by
          cases ho : o.bor with
          | none =>
            rw [ho] at v1
            exact R2.vw (bor := none) (Rep.mono (Le.of_same s2) _ _ v1)
          | some i =>
            rw [ho] at v1
            have hp : r.pur = true := by simpa [ho] using h5
            have e12 := r.pok hp _ _ _ eb
            subst e12
            exact R2.vw (bor := some i) v1
        refine ⟨G2, d, ds, R2.le, hv, ar.vw R2, ?_⟩
        rw [ef]
        exact fun v' H' G' n rr => h v' H' G' (R2.grow n.1 n.2.1 n.2.2.1 (n.2.2.2 R2.tab.g)) ((s1.trans s2).trans n.2.1) rr
      · rw [if_neg ht] at h; exact h.elim
    · cases hc
def isStrD : D → Bool | .str _ => true | _ => false
def isLstD : D → Bool | .lst _ => true | _ => false
theorem tyStr (K : Fg) (G H : Hp) (d : D) (x : V) (le : Le G H) (h : VW K G H d x) (t : isStrD d = true) : tyV K "str" x H := by
  cases d with
  | str z => rw [h.str]; exact rfl
  | _ => cases t
theorem tyLst (K : Fg) (G H : Hp) (d : D) (x : V) (le : Le G H) (h : VW K G H d x) (t : isLstD d = true) : tyV K "list" x H := by
  cases d with
  | lst l =>
    obtain ⟨a, xs, rfl, h1, _⟩ := h.lst
    exact .inl ⟨rfl, xs, SqL.of h1⟩
  | _ => cases t
def strIndexF : D → List D → Option D
  | .str a, [.str b] => (Txt.index0 a b).map fun (k : Nat) => D.int (k : Int)
  | _, _ => none
def mStrIndex : Bm where
  name := "index"
  T := "str"
  id := "str.index"
  f := strIndexF
  ty := isStrD
  pa := PySem.F.plainAttrs_str
  slot := PySem.F.slot_str_index
  hty := PySem.F.type_str_index
  tyOk := tyStr
  ok X hc hu W tk pins s σ H x xs v us Q I rx rs h := by
    obtain ⟨G, d, ds, r, le, v1, v2, e, q⟩ := rMv_some h
    unfold strIndexF at e
    split at e
    · rename_i a b
      obtain ⟨k, ek, rfl⟩ := Option.map_eq_some_iff.mp e
      obtain ⟨y, rfl, vy⟩ := pair1 v2
      refine mt_indexX hc tk pins s σ H x [y] v us Q I rx rs ⟨a, b, v1.str, by rw [vy.str], fun k' e' => ?_, fun e' => ?_⟩
      · rw [ek] at e'; cases e'; exact q _ H G (Nw.refl _ _) rfl
      · rw [ek] at e'; cases e'
    · cases e
def strFindF : D → List D → Option D
  | .str a, [.str b] => some (.int (Txt.find a b))
  | _, _ => none
def mStrFind : Bm where
  name := "find"
  T := "str"
  id := "str.find"
  f := strFindF
  ty := isStrD
  pa := PySem.F.plainAttrs_str
  slot := PySem.F.slot_str_find
  hty := PySem.F.type_str_find
  tyOk := tyStr
  ok X hc hu W tk pins s σ H x xs v us Q I rx rs h := by
    obtain ⟨G, d, ds, r, le, v1, v2, e, q⟩ := rMv_some h
    unfold strFindF at e
    split at e
    · rename_i a b
      cases e
      obtain ⟨y, rfl, vy⟩ := pair1 v2
      exact mt_find pins s σ H x [y] v us Q I rx rs ⟨a, b, v1.str, by rw [vy.str], q _ H G (Nw.refl _ _) rfl⟩
    · cases e
/-- the first place of a flat value -/
def idxV (y : V) : List V → Nat → Option Nat
  | [], _ => none
  | z :: l, j => if eqV z y = true then some j else idxV y l (j + 1)
theorem idxV_ok {y : V} : ∀ {l : List V} {j k : Nat}, idxV y l j = some k → ∃ m z, k = j + m ∧ l[m]? = some z ∧ eqV z y = true ∧ ∀ (n : Nat) (z' : V), n < m → l[n]? = some z' → eqV z' y = false
  | [], _, _, h => by cases h
  | z :: l, j, k, h => by
    unfold idxV at h
    split at h
    · rename_i e
      cases h
      exact ⟨0, z, rfl, rfl, e, fun n _ hn => absurd hn (Nat.not_lt_zero _)⟩
    · rename_i e
      obtain ⟨m, w, rfl, h1, h2, h3⟩ := idxV_ok h
      refine ⟨m + 1, w, by omega, by simpa using h1, h2, fun n z' hn hz => ?_⟩
      cases n with
      | zero => simp at hz; subst hz; simpa using e
      | succ n => exact h3 n z' (by omega) (by simpa using hz)
def lstIndexF : D → List D → Option D
  | .lst l, [y] => (match flatD y, flatsD l with
    | some yv, some lv => (idxV yv lv 0).map fun (k : Nat) => D.int (k : Int)
    | _, _ => none)
  | _, _ => none
def mLstIndex : Bm where
  name := "index"
  T := "list"
  id := "list.index"
  f := lstIndexF
  ty := isLstD
  pa := PySem.F.plainAttrs_list
  slot := PySem.F.slot_list_index
  hty := PySem.F.type_list_index
  tyOk := tyLst
  ok X hc hu W tk pins s σ H x xs v us Q I rx rs h := by
    obtain ⟨G, d, ds, r, le, v1, v2, e, q⟩ := rMv_some h
    unfold lstIndexF at e
    split at e
    · rename_i l y
      split at e
      · rename_i yv lv e1 e2
        obtain ⟨k, ek, rfl⟩ := Option.map_eq_some_iff.mp e
        obtain ⟨z, rfl, vz⟩ := pair1 v2
        obtain ⟨a, ys, rfl, h1, h2⟩ := v1.lst
        obtain ⟨rfl, f1⟩ := flatsD_rep e2 h2
        obtain ⟨rfl, f2⟩ := vz.flat e1
        obtain ⟨m, w, rfl, g1, g2, g3⟩ := idxV_ok ek
        refine mt_index pins s σ H _ _ v us Q I rx rs ⟨a, ys, z, m, w, rfl, rfl, SqL.of h1, f2, f1, g1, g2, g3, ?_⟩
        have := q (.int ((0 + m : Nat) : Int)) H G (Nw.refl _ _) rfl
        simpa using this
      · cases e
    · cases e
end C

set_option maxRecDepth 100000
set_option maxHeartbeats 4000000
namespace C
open PySem L2
/-! ### built-ins that want calm -/
structure Bc where
  x : Str
  v : BV
  f : List D → Option D
  bx : bootBuiltins x = some v.val
  nx : x ≠ "__name__" ∧ (x == ("__debug__" : Str)) = false
  ok : ∀ X : Cx, X.calm = true → X.A.units + 100 < cLine → CallR X v.val (rC X.K f)
def CE.bltc (b : Bc) (r : CM) : CE where
  chk sc e := sc.calm && chkB b.x r sc e
  req z := z.mg b.x = none ∧ r.req z
  bor := none
  pur := r.pur
  ev env := (r.ev env).bind fun ds e => optE (b.f ds) e
  pok h env d env' e := by
    cases e1 : r.ev env with
    | bad => rw [e1] at e; cases e
    | exc _ _ _ => rw [e1] at e; cases e
    | ok x ex =>
      simp only [e1, AR.bind] at e
      cases e2 : b.f x with
      | none => rw [e2] at e; cases e
      | some y => rw [e2] at e; cases e; exact r.pok h _ _ _ e1
  bok i h := by cases h
  sound sc X e W hc k q tk := by
    obtain ⟨h0, hd⟩ := and3 hc
    clear hc
    unfold chkB at hd
    split at hd
    · rename_i y p e1 es pos
      obtain ⟨h1, h⟩ := and3 hd
      obtain ⟨h2, h3⟩ := and3 h
      have ey := of_decide_eq_true h1
      subst ey
      have ns := r.star sc _ h3
      rw [List.all_cons] at ns
      have pe : PE X (.Call (.Name b.x p) (e1 :: es) [] pos) (tCB (rC X.K b.f) (tCc sc X.K r.sl r.ev W)) := by
        have ok := b.ok X (k.calm.trans h0) k.un
        have bx := b.bx
        cases hv : b.v with
        | fn id => rw [hv] at ok bx; exact pe_callB ok (chkGl_ok h2 k) q.1 bx (r.sound sc X _ W h3 k q.2 tk) b.nx.1 b.nx.2 (notStar_ok (and3 ns).1) (nostar_any (and3 ns).2)
        | ty T => rw [hv] at ok bx; exact pe_callTy ok (chkGl_ok h2 k) q.1 bx (r.sound sc X _ W h3 k q.2 tk) b.nx.1 b.nx.2 (notStar_ok (and3 ns).1) (nostar_any (and3 ns).2)
      refine pe.imp fun σ H Q h => ?_
      obtain ⟨fx, L, G, env, R, h⟩ := h
      refine ⟨fx, L, G, env, R, AR.post_mono (AR.post_bind h) (fun ds e1 _ h vs H1 G1 R1 s1 ar => ?_) fun _ _ _ h => h⟩
      obtain ⟨d, ef, h⟩ := optE_post h
      refine ⟨G1, ds, R1.le, ar.vw R1, ?_⟩
      rw [ef]
      exact fun v H' G' n r => h v H' G' (R1.grow n.1 n.2.1 n.2.2.1 (n.2.2.2 R1.tab.g)) (s1.trans n.2.1) r
    · cases hd
/-- the ints, the bools of a list -/
def intsD : List D → Option (List Int)
  | [] => some []
  | .int i :: l => (intsD l).map (i :: ·)
  | _ => none
def blsD : List D → Option (List Bool)
  | [] => some []
  | .bl i :: l => (blsD l).map (i :: ·)
  | _ => none
theorem intsD_rep {K : Fg} {G : Hp} : ∀ {l : List D} {xs : List V} {ns : List Int}, intsD l = some ns → Reps K G l xs → xs = ns.map V.int
  | [], xs, ns, h, r => by cases h; cases r; rfl
  | d :: l, xs, ns, h, r => by
    cases d with
    | int i =>
      obtain ⟨ms, e, rfl⟩ := Option.map_eq_some_iff.mp (show (intsD l).map (i :: ·) = some ns from h)
      obtain ⟨x, t, rfl, r1, r2⟩ := r
      cases r1
      rw [intsD_rep e r2]; rfl
    | _ => cases h
theorem blsD_rep {K : Fg} {G : Hp} : ∀ {l : List D} {xs : List V} {ns : List Bool}, blsD l = some ns → Reps K G l xs → xs = ns.map V.bl
  | [], xs, ns, h, r => by cases h; cases r; rfl
  | d :: l, xs, ns, h, r => by
    cases d with
    | bl i =>
      obtain ⟨ms, e, rfl⟩ := Option.map_eq_some_iff.mp (show (blsD l).map (i :: ·) = some ns from h)
      obtain ⟨x, t, rfl, r1, r2⟩ := r
      cases r1
      rw [blsD_rep e r2]; rfl
    | _ => cases h
def maxI : List Int → Int → Int
  | [], m => m
  | a :: l, m => maxI l (if m < a then a else m)
def minI : List Int → Int → Int
  | [], m => m
  | a :: l, m => minI l (if a < m then a else m)
theorem maxI_ok : ∀ (l : List Int) (m : Int), (maxI l m = m ∨ maxI l m ∈ l) ∧ m ≤ maxI l m ∧ ∀ y ∈ l, y ≤ maxI l m
  | [], m => ⟨.inl rfl, Int.le_refl _, fun _ h => nomatch h⟩
  | a :: l, m => by
    obtain ⟨h1, h2, h3⟩ := maxI_ok l (if m < a then a else m)
    have e : maxI (a :: l) m = maxI l (if m < a then a else m) := rfl
    rw [e]
    refine ⟨?_, ?_, fun y hy => ?_⟩
    · rcases h1 with h | h
      · rw [h]
        by_cases c : m < a
        · rw [if_pos c]; exact .inr List.mem_cons_self
        · rw [if_neg c]; exact .inl rfl
      · exact .inr (List.mem_cons_of_mem _ h)
    · by_cases c : m < a
      · rw [if_pos c] at h2 ⊢; omega
      · rw [if_neg c] at h2 ⊢; exact h2
    · rcases List.mem_cons.mp hy with rfl | hy
      · by_cases c : m < y
        · rw [if_pos c] at h2 ⊢; exact h2
        · rw [if_neg c] at h2 ⊢; omega
      · exact h3 y hy
theorem minI_ok : ∀ (l : List Int) (m : Int), (minI l m = m ∨ minI l m ∈ l) ∧ minI l m ≤ m ∧ ∀ y ∈ l, minI l m ≤ y
  | [], m => ⟨.inl rfl, Int.le_refl _, fun _ h => nomatch h⟩
  | a :: l, m => by
    obtain ⟨h1, h2, h3⟩ := minI_ok l (if a < m then a else m)
    have e : minI (a :: l) m = minI l (if a < m then a else m) := rfl
    rw [e]
    refine ⟨?_, ?_, fun y hy => ?_⟩
    · rcases h1 with h | h
      · rw [h]
        by_cases c : a < m
        · rw [if_pos c]; exact .inr List.mem_cons_self
        · rw [if_neg c]; exact .inl rfl
      · exact .inr (List.mem_cons_of_mem _ h)
    · by_cases c : a < m
      · rw [if_pos c] at h2 ⊢; omega
      · rw [if_neg c] at h2 ⊢; exact h2
    · rcases List.mem_cons.mp hy with rfl | hy
      · by_cases c : y < m
        · rw [if_pos c] at h2 ⊢; exact h2
        · rw [if_neg c] at h2 ⊢; omega
      · exact h3 y hy
def maxF : List D → Option D
  | [.int i, .int j] => some (.int (if j > i then j else i))
  | [.lst l] => (match intsD l with | some (a :: r) => some (.int (maxI r a)) | _ => none)
  | _ => none
def minF : List D → Option D
  | [.int i, .int j] => some (.int (if j < i then j else i))
  | [.lst l] => (match intsD l with | some (a :: r) => some (.int (minI r a)) | _ => none)
  | _ => none
def bMax : Bc where
  x := "max"
  v := .fn "max"
  f := maxF
  bx := by first | exact PyProof.Rows.boot_max | rfl
  nx := ⟨by decide, by decide⟩
  ok X hc _ pins s σ H xs us Q I r q0 := by
    obtain ⟨G, ds, d, le, p, e, q⟩ := rC_some q0
    clear q0
    unfold maxF at e
    split at e
    · cases e
      obtain ⟨x, y, rfl, v1, v2⟩ := pair2 p
      exact call_max2 hc pins s σ H _ us Q I r ⟨_, _, by rw [v1.int, v2.int], q _ H G (Nw.refl _ _) rfl⟩
    · split at e
      · rename_i l a rr ei
        cases e
        obtain ⟨x, rfl, v1⟩ := pair1 p
        obtain ⟨ad, ys, rfl, hs, rp⟩ := v1.lst
        have ey := intsD_rep ei rp
        subst ey
        obtain ⟨h1, h2, h3⟩ := maxI_ok rr a
        refine cr_max hc pins s σ H _ us Q I r ⟨ad, a :: rr, rfl, SqL.of hs, by simp, fun m hm hy => ?_⟩
        have : m = maxI rr a := by
          have l1 : m ≤ maxI rr a := by
            rcases List.mem_cons.mp hm with rfl | hm
            · exact h2
            · exact h3 m hm
          have l2 : maxI rr a ≤ m := by
            rcases h1 with h | h
            · rw [h]; exact hy a List.mem_cons_self
            · exact hy _ (List.mem_cons_of_mem _ h)
          omega
        subst this
        exact q _ H G (Nw.refl _ _) rfl
      · cases e
    · cases e
def bMin : Bc where
  x := "min"
  v := .fn "min"
  f := minF
  bx := by first | exact PyProof.Rows.boot_min | rfl
  nx := ⟨by decide, by decide⟩
  ok X hc _ pins s σ H xs us Q I r q0 := by
    obtain ⟨G, ds, d, le, p, e, q⟩ := rC_some q0
    clear q0
    unfold minF at e
    split at e
    · cases e
      obtain ⟨x, y, rfl, v1, v2⟩ := pair2 p
      exact call_min2 hc pins s σ H _ us Q I r ⟨_, _, by rw [v1.int, v2.int], q _ H G (Nw.refl _ _) rfl⟩
    · split at e
      · rename_i l a rr ei
        cases e
        obtain ⟨x, rfl, v1⟩ := pair1 p
        obtain ⟨ad, ys, rfl, hs, rp⟩ := v1.lst
        have ey := intsD_rep ei rp
        subst ey
        obtain ⟨h1, h2, h3⟩ := minI_ok rr a
        refine cr_min hc pins s σ H _ us Q I r ⟨ad, a :: rr, rfl, SqL.of hs, by simp, fun m hm hy => ?_⟩
        have : m = minI rr a := by
          have l1 : minI rr a ≤ m := by
            rcases List.mem_cons.mp hm with rfl | hm
            · exact h2
            · exact h3 m hm
          have l2 : m ≤ minI rr a := by
            rcases h1 with h | h
            · rw [h]; exact hy a List.mem_cons_self
            · exact hy _ (List.mem_cons_of_mem _ h)
          omega
        subst this
        exact q _ H G (Nw.refl _ _) rfl
      · cases e
    · cases e
def sumF : List D → Option D
  | [.lst l] => (intsD l).map fun (ns : List Int) => D.int ns.sum
  | _ => none
def bSum : Bc where
  x := "sum"
  v := .fn "sum"
  f := sumF
  bx := by first | exact PyProof.Rows.boot_sum | rfl
  nx := ⟨by decide, by decide⟩
  ok X hc _ pins s σ H xs us Q I r q0 := by
    obtain ⟨G, ds, d, le, p, e, q⟩ := rC_some q0
    clear q0
    unfold sumF at e
    split at e
    · obtain ⟨ns, ei, rfl⟩ := Option.map_eq_some_iff.mp e
      obtain ⟨x, rfl, v1⟩ := pair1 p
      obtain ⟨ad, ys, rfl, hs, rp⟩ := v1.lst
      have ey := intsD_rep ei rp
      subst ey
      exact cr_sum hc pins s σ H _ us Q I r ⟨ad, ns, rfl, SqL.of hs, q _ H G (Nw.refl _ _) rfl⟩
    · cases e
def anyF : List D → Option D
  | [.lst l] => (blsD l).map fun (ns : List Bool) => D.bl (ns.any id)
  | _ => none
def allF : List D → Option D
  | [.lst l] => (blsD l).map fun (ns : List Bool) => D.bl (ns.all id)
  | _ => none
def bAny : Bc where
  x := "any"
  v := .fn "any"
  f := anyF
  bx := by first | exact PyProof.Rows.boot_any | rfl
  nx := ⟨by decide, by decide⟩
  ok X hc _ pins s σ H xs us Q I r q0 := by
    obtain ⟨G, ds, d, le, p, e, q⟩ := rC_some q0
    clear q0
    unfold anyF at e
    split at e
    · obtain ⟨ns, ei, rfl⟩ := Option.map_eq_some_iff.mp e
      obtain ⟨x, rfl, v1⟩ := pair1 p
      obtain ⟨ad, ys, rfl, hs, rp⟩ := v1.lst
      have ey := blsD_rep ei rp
      subst ey
      exact cr_any hc pins s σ H _ us Q I r ⟨ad, ns, rfl, SqL.of hs, q _ H G (Nw.refl _ _) rfl⟩
    · cases e
def bAll : Bc where
  x := "all"
  v := .fn "all"
  f := allF
  bx := by first | exact PyProof.Rows.boot_all | rfl
  nx := ⟨by decide, by decide⟩
  ok X hc _ pins s σ H xs us Q I r q0 := by
    obtain ⟨G, ds, d, le, p, e, q⟩ := rC_some q0
    clear q0
    unfold allF at e
    split at e
    · obtain ⟨ns, ei, rfl⟩ := Option.map_eq_some_iff.mp e
      obtain ⟨x, rfl, v1⟩ := pair1 p
      obtain ⟨ad, ys, rfl, hs, rp⟩ := v1.lst
      have ey := blsD_rep ei rp
      subst ey
      exact cr_all hc pins s σ H _ us Q I r ⟨ad, ns, rfl, SqL.of hs, q _ H G (Nw.refl _ _) rfl⟩
    · cases e
def bAbs : Bc where
  x := "abs"
  v := .fn "abs"
  f ds := match ds with | [.int i] => some (.int (if i < 0 then -i else i)) | _ => none
  bx := by first | exact PyProof.Rows.boot_abs | rfl
  nx := ⟨by decide, by decide⟩
  ok X hc _ pins s σ H xs us Q I r q0 := by
    obtain ⟨G, ds, d, le, p, e, q⟩ := rC_some q0
    clear q0
    split at e
    · cases e
      obtain ⟨x, rfl, v1⟩ := pair1 p
      exact call_abs pins s σ H _ us Q I r ⟨_, by rw [v1.int], q _ H G (Nw.refl _ _) rfl⟩
    · cases e
/-- tuple(xs), list(xs) -/
def bTuple : Bc where
  x := "tuple"
  v := .ty "tuple"
  f ds := match ds with | [.lst l] => some (.tup l) | _ => none
  bx := by first | exact PyProof.Rows.boot_tuple | rfl
  nx := ⟨by decide, by decide⟩
  ok X hc _ pins s σ H xs us Q I r q0 := by
    obtain ⟨G, ds, d, le, p, e, q⟩ := rC_some q0
    clear q0
    split at e
    · cases e
      obtain ⟨x, rfl, v1⟩ := pair1 p
      obtain ⟨ad, ys, rfl, hs, rp⟩ := v1.lst
      refine call_tuple_of pins s σ H _ us Q I r ⟨ad, ys, rfl, .inl ⟨SqL.of hs, fun l hl => ?_⟩⟩
      have n := Nw.alloc (K := X.K) (o := .tup ys) le hl
      exact q (.ref l) _ (L2.upd G l (.tup ys)) n ⟨l, ys, rfl, .inl upd_same, Reps.mono (Le.of_same n.2.1) _ _ rp⟩
    · cases e
end C

set_option maxRecDepth 100000
namespace C
open PySem L2
section
variable {env : Env} {d : D} {c : Str} {fs : List (Str × D)}
@[simp] theorem ev_asgP (l : List CG) (c : CE) : (CS.asgP l c).ev env = (c.ev env).bindS fun d e => match (CG.tup l).asg d e with | some e' => .nx e' | none => .bad := rfl
@[simp] theorem ev_par2 (i j : Nat) (a : CA) : (CS.par2 i j a).ev env = match a.ev env with
    | .ok [u, v] e => .nx ((e.set i (some u)).set j (some v))
    | .exc c fs e => .exc c fs e
    | _ => .bad := rfl
@[simp] theorem ev_par3 (i j l : Nat) (a : CA) : (CS.par3 i j l a).ev env = match a.ev env with
    | .ok [u, v, w] e => .nx (((e.set i (some u)).set j (some v)).set l (some w))
    | .exc c fs e => .exc c fs e
    | _ => .bad := rfl
@[simp] theorem ev_aug {op : Operator} (o : Aug op) (i : Nat) (c : CE) : (CS.aug o i c).ev env = match env[i]? with
    | some (some (.int a)) => (c.ev env).bindS fun d e => match d with
      | .int b => (match o.f a b with | some n => .nx (e.set i (some (.int n))) | none => .bad)
      | _ => .bad
    | _ => .bad := rfl
@[simp] theorem aAdd_f (i j : Int) : aAdd.f i j = some (i + j) := rfl
@[simp] theorem aSub_f (i j : Int) : aSub.f i j = some (i - j) := rfl
@[simp] theorem ev_frz (i : Nat) (b : CB) : (CB.frz i b).ev env = match env[i]? with
    | some (some _) => dropR i (b.ev env)
    | _ => .bad := rfl
@[simp] theorem dropR_nx (i : Nat) : dropR i (.nx env) = if i < env.length then .nx (env.set i none) else .bad := rfl
@[simp] theorem dropR_rt (i : Nat) : dropR i (.rt d env) = if i < env.length then .rt d (env.set i none) else .bad := rfl
@[simp] theorem dropR_exc (i : Nat) : dropR i (.exc c fs env) = if i < env.length then .exc c fs (env.set i none) else .bad := rfl
@[simp] theorem ev_bm (b : Bm) (o : CE) (r : CM) : (CE.bm b o r).ev env = (o.ev env).bind fun d e1 => if b.ty d = true then (r.ev e1).bind fun ds e2 => optE (b.f d ds) e2 else .bad := rfl
@[simp] theorem ev_bltc (b : Bc) (r : CM) : (CE.bltc b r).ev env = (r.ev env).bind fun ds e => optE (b.f ds) e := rfl
@[simp] theorem mFind_f (a b : Str) : mStrFind.f (.str a) [.str b] = some (.int (Txt.find a b)) := rfl
@[simp] theorem mFind_ty (a : Str) : mStrFind.ty (.str a) = true := rfl
@[simp] theorem mIndex_f (a b : Str) : mStrIndex.f (.str a) [.str b] = (Txt.index0 a b).map fun (k : Nat) => D.int (k : Int) := rfl
@[simp] theorem mIndex_ty (a : Str) : mStrIndex.ty (.str a) = true := rfl
@[simp] theorem iterD_lst (l : List D) : iterD (.lst l) = some l := rfl
@[simp] theorem iterD_tup (l : List D) : iterD (.tup l) = some l := rfl
end
theorem max_eq (i j : Int) : (if j > i then j else i) = max i j := by omega
theorem min_eq (i j : Int) : (if j < i then j else i) = min i j := by omega
@[simp] theorem bMax_2 (i j : Int) : bMax.f [.int i, .int j] = some (.int (max i j)) := by rw [← max_eq]; rfl
@[simp] theorem bMin_2 (i j : Int) : bMin.f [.int i, .int j] = some (.int (min i j)) := by rw [← min_eq]; rfl
end C

set_option maxRecDepth 100000
set_option maxHeartbeats 4000000
namespace C
open PySem L2
/-! ### own operators: a + b, a * k, a[k], len(a) by the class's own methods -/
def OpRq (r : Rq) (c m : Str) (n : Nat) (F : List D → FR) : Prop := ∃ k f fd ps, FnOk r.prog r.w r.K r.mg r.base (L2.CX r.prog r.w) k f fd ps (lift r.K n [] false F) ∧ Room (k + 2) r.A ∧ PySem.W.findIn r.K (.ref (ga r.K c)) m = some (some (.ref f)) ∧ PySem.W.isFn r.K (.ref f) = true ∧ PySem.W.fnIn r.K f = true ∧ Binds r.K fd ps []
/-- what the class must be for a binary operation -/
def binIB (nm : String) (c : Str) (K : Fg) : Bool := PySem.W.selfFirst K (ga K c) && (decide (PySem.W.findIn K (.ref (ga K c)) (dunderR nm) = some none) && ((PySem.W.findIn K (.type "int") (PySem.dunder nm)).isSome && ((PySem.W.findIn K (.type "int") (dunderR nm)).isSome && decide (PySem.W.subIn K (.type "int") (.ref (ga K c)) = some false))))
def opIB (c m : Str) (K : Fg) : Bool := decide (PySem.W.findIn K (.ref (ga K c)) m = some (some (.ref (He.ma K (ga K c) m)))) && (PySem.W.isFn K (.ref (He.ma K (ga K c) m)) && PySem.W.fnIn K (He.ma K (ga K c) m))
def rightI (c : Str) : D → Bool
  | .ins c' _ => decide (c' = c)
  | .int _ => true
  | _ => false
theorem relV_cmp {v : V} {u : Value} {X : Cx} {pins : List (Addr × Obj)} {σ : St} {Q : VK} {s : Shared} (h : EP X pins σ Q u s) : PySem.W.CmpBack (EP X pins σ Q) u s := by
  cases u with
  | notImplemented =>
    obtain ⟨v, H', _, r, _⟩ := h
    cases v <;> first | exact r.elim | (obtain ⟨t, r⟩ := r; cases r) | cases r
  | _ => exact h
theorem pe_binI {X : Cx} {a b : Expr} {ta tb : TE} {op : Operator} {pos : Pos} {c : Str} {F : List D → FR} {E : St → XK} (q : OpRq (rq X) c (PySem.dunder op.info.2) 2 F) (hB : binIB op.info.2 c X.K = true) (hx : ∀ σ, PassesAt (L2.CX X.prog X.w) X σ (E σ)) (ha : PE X a ta) (hb : PE X b tb) :
    PE X (.BinOp a op b pos) (fun σ H Q => ta σ H fun x H1 => tb σ H1 fun y H2 => ∃ G dx dy, Le G H2 ∧ Rep X.K G dx x ∧ Rep X.K G dy y ∧ isIns c dx = true ∧ rightI c dy = true ∧ lift X.K 2 [] false F [x, y] H2 Q (E σ)) := by
  refine ⟨fun pins s σ H Q I h => ?_⟩
  refine wpAny_BinOp (binT ha hb I h fun v u s2 x y H2 I2 rx ry z => ?_)
  obtain ⟨G, dx, dy, le, r1, r2, g1, g2, sp⟩ := z
  obtain ⟨kk, f, fd, ps, Fk, hr, hs, hf, hfn, hbd⟩ := q
  unfold binIB at hB
  obtain ⟨b1, h⟩ := and3 hB
  obtain ⟨b2, h⟩ := and3 h
  obtain ⟨b3, h⟩ := and3 h
  obtain ⟨b4, b5⟩ := and3 h
  obtain ⟨m, hF⟩ := I2.fr
  cases dx with
  | ins c' fs =>
    have ec : c' = c := of_decide_eq_true g1
    subst ec
    obtain ⟨p, ddx, xs, rfl, hp, _⟩ := id r1
    have hp' := le.ex _ _ (notD_ins _ _ _) hp
    cases rx
    obtain ⟨mA, J, _⟩ := ins_get I2.hok hp'
    obtain ⟨od, J, _⟩ := J.look
    have run : wpAny (model X.prog X.w) X.A (call (.ref f) [.ref p, u]) (PySem.W.CmpBack (EP X pins σ Q)) X.xe s2 :=
      thn (run_fnSD (dvs := []) (ds := []) (us := [.ref p, u]) (vs := [.ref p, y]) Fk (hr.mono (by omega)) hbd .nil (hx σ) I2 (.cons rfl (.cons ry .nil)) sp) fun w s' z => relV_cmp (v := y) z
    cases dy with
    | ins c2 fs2 =>
      have ec2 : c2 = c' := of_decide_eq_true g2
      subst ec2
      obtain ⟨p2, ddx2, xs2, rfl, hp2, _⟩ := id r2
      cases ry
      obtain ⟨mB, J', _⟩ := ins_get I2.hok (le.ex _ _ (notD_ins _ _ _) hp2)
      obtain ⟨od', J', _⟩ := J'.look
      exact PySem.W.binop_K hF I2.ok.mod.kin J J'.type b1 hs hf run
    | int i =>
      have : y = .int i := r2
      subst this
      obtain ⟨t, rfl⟩ := ry
      obtain ⟨fo, efo⟩ := Option.isSome_iff_exists.mp b3
      obtain ⟨ro, ero⟩ := Option.isSome_iff_exists.mp b4
      exact PySem.W.ksp_binT (T := "int") hF I2.ok.mod.kin J rfl b1 hs hf (of_decide_eq_true b2) (.inl rfl) efo ero (of_decide_eq_true b5) run
    | _ => cases g2
  | _ => cases g1
def evBinI (c : Str) (F : List D → FR) (a b : CE) (env : Env) : ER := (a.ev env).bind fun x e1 => (b.ev e1).bind fun y e2 => if (isIns c x && rightI c y) = true then evCall F [] [none, none] [x, y] e2 else .bad
def CE.binI (op : Operator) (c : Str) (F : List D → FR) (a b : CE) : CE where
  chk sc e := match e with | .BinOp x p y _ => opEq p op && (a.chk sc x && (b.chk sc y && (a.bor.isNone && b.bor.isNone))) | _ => false
  req r := (OpRq r c (PySem.dunder op.info.2) 2 F ∧ binIB op.info.2 c r.K = true) ∧ a.req r ∧ b.req r
  bor := none
  pur := false
  ev := evBinI c F a b
  pok h := by cases h
  bok i h := by cases h
  sound sc X e W hc k q tk := by
    cases e with
    | BinOp x p y pos =>
      obtain ⟨h1, h⟩ := and3 hc
      obtain ⟨h2, h⟩ := and3 h
      obtain ⟨h3, h⟩ := and3 h
      obtain ⟨h4, h5⟩ := and3 h
      have ha : a.bor = none := by simpa using h4
      have hb : b.bor = none := by simpa using h5
      rw [opEq_ok h1]
      refine (pe_binI q.1.1 q.1.2 (fun σ => passAt tk σ) (a.sound sc X x W h2 k q.2.1 tk) (b.sound sc X y W h3 k q.2.2 tk)).imp fun σ H Q h => ?_
      obtain ⟨fx, L, G, env, R, h⟩ := h
      refine ⟨fx, L, G, env, R, ER.post_mono (ER.post_bind h) (fun dx e1 ea h x H1 G1 R1 s1 v1 => ?_) fun _ _ _ h => h⟩
      refine ⟨fx, L, G1, e1, R1, ER.post_mono (ER.post_bind h) (fun dy e2 eb h y H2 G2 R2 s2 v2 => ?_) (XW.mono s1)⟩
      rw [ha] at v1
      rw [hb] at v2
      split at h
      · rename_i hi
        obtain ⟨g1, g2⟩ := and3 hi
        have v1' := Rep.mono (Le.of_same s2) _ _ v1
        refine ⟨G2, dx, dy, R2.le, v1', v2, g1, g2, ?_⟩
        exact call_to (sl := [none, none]) (dds := []) (dvs := []) (ds := [dx, dy]) (vs := [x, y]) (n := 2) (fr := false) R2 ⟨x, [y], rfl, v1', y, [], rfl, v2, rfl⟩ (by decide) (fun G => rfl) rfl (s1.trans s2) h
      · exact h.elim
    | _ => cases hc
/-! len(a) -/
theorem call_lenI {X : Cx} {c : Str} {F : List D → FR} {E : St → XK} (q : OpRq (rq X) c "__len__" 1 F) {pins : List (Addr × Obj)} {s : Shared} {σ : St} {H : Hp} {x : V} {u : Value} {Q : VK} (I : Inv X pins σ H s) (rx : RelV x u)
    (z : ∃ G dx i, (Le G H ∧ LamX.Tabs (lamT X.K) H ∧ noTb G) ∧ Rep X.K G dx x ∧ isIns c dx = true ∧ F [dx] = .ret (.int i) [] ∧ (0 ≤ i ∧ i < 2 ^ 63) ∧ ∀ H', Kp X.K H H' → Q (.int i) H') : wpAny (model X.prog X.w) X.A (call (.builtin "len") [u]) (EP X pins σ Q) X.xe s := by
  obtain ⟨G, dx, i, ⟨le, tb0, ng⟩, r1, g1, eF, hi, hq⟩ := z
  obtain ⟨kk, f, fd, ps, Fk, hr, hs, hf, hfn, hbd⟩ := q
  obtain ⟨G1, hG1, le1, _, n1'⟩ := le.exact (K := X.K)
  have sp : lift X.K 1 [] false F [x] H (fun v H' => v = .int i ∧ Q (.int i) H') (fun _ _ _ => False) := lift_pure (ds := [dx]) rfl hG1 ⟨x, [], rfl, Rep.mono le1 _ _ r1, rfl⟩ eF tb0 (n1' ng) fun v H' G' s1 _ _ rv => ⟨rv, hq H' s1⟩
  cases dx with
  | ins c' fs =>
    have ec : c' = c := of_decide_eq_true g1
    subst ec
    obtain ⟨p, ddx, xs, rfl, hp, _⟩ := id r1
    have hp' := le.ex _ _ (notD_ins _ _ _) hp
    cases rx
    obtain ⟨mA, J, _⟩ := ins_get I.hok hp'
    obtain ⟨od, J, _⟩ := J.look
    obtain ⟨m, hF⟩ := I.fr
    refine PySem.W.len_K hF I.ok.mod.kin J hs hf ?_
    have hl : ([Value.ref p] ++ ([] : List Value)).length = ps.length := by
      rw [← Fk.len _ _ _ _ sp]; rfl
    refine wpAny_call (codeAny_mono (Fk.run X.A.in1 X.stack s H ⟨[.ref p], []⟩ [.ref p] [.ref p] _ _ (hr.mono (by omega) : Room (kk + 1) X.A).in1 I.env0.in1 (hbd s [.ref p] I.kIn hl) (.cons rfl .nil) sp) fun r s' hq' => ?_)
    cases r with
    | error e =>
      obtain ⟨_, _, _, _, _, _, _, _, _, _, _, _, z⟩ := hq'
      exact z.elim
    | ok fl =>
      cases fl with
      | ret u =>
        obtain ⟨v, H', I3, rv, ev, q3⟩ := I.after hq'
        subst ev
        obtain ⟨t, rfl⟩ := rv
        exact ⟨hi, .int i, H', I3.tok _, ⟨_, rfl⟩, q3⟩
      | next => exact False.elim hq'
      | brk => exact False.elim hq'
      | cont => exact False.elim hq'
  | _ => cases g1
def lenI (c : Str) (F : List D → FR) (x : D) : Option Int := if isIns c x then (match F [x] with | .ret (.int i) [] => if decide (0 ≤ i) && decide (i < 2 ^ 63) then some i else none | _ => none) else none
theorem call_lenR {X : Cx} {c : Str} {F : List D → FR} (q : OpRq (rq X) c "__len__" 1 F) : CallR X (.builtin "len") (fun xs H Q => ∃ G dx x i, xs = [x] ∧ (Le G H ∧ LamX.Tabs (lamT X.K) H ∧ noTb G) ∧ Rep X.K G dx x ∧ lenI c F dx = some i ∧ ∀ H', Kp X.K H H' → Q (.int i) H') := by
  intro pins s σ H xs us Q I rx z
  obtain ⟨G, dx, x, i, rfl, le, r1, e, hq⟩ := z
  cases rx with
  | cons rx r0 =>
    cases r0
    unfold lenI at e
    split at e
    · rename_i hi
      split at e
      · rename_i i' eF
        split at e
        · rename_i hj
          cases e
          obtain ⟨j1, j2⟩ := and3 hj
          exact call_lenI (E := fun _ _ _ _ => False) q I rx ⟨G, dx, _, le, r1, hi, eF, ⟨of_decide_eq_true j1, of_decide_eq_true j2⟩, hq⟩
        · cases e
      · cases e
    · cases e
def CE.lenI (c : Str) (F : List D → FR) (a : CE) : CE where
  chk sc e := match e with | .Call (.Name y _) [o] [] _ => decide (y = "len") && (chkGl sc "len" && (notStar o && (a.bor.isNone && a.chk sc o))) | _ => false
  req z := z.mg "len" = none ∧ OpRq z c "__len__" 1 F ∧ a.req z
  bor := none
  pur := false
  ev env := (a.ev env).bind fun x e1 => optE ((C.lenI c F x).map D.int) e1
  pok h := by cases h
  bok i h := by cases h
  sound sc X e W hc k q tk := by
    split at hc
    · rename_i y p o pos
      obtain ⟨h1, h⟩ := and3 hc
      obtain ⟨h2, h⟩ := and3 h
      obtain ⟨h3, h⟩ := and3 h
      obtain ⟨h4, h5⟩ := and3 h
      have ey := of_decide_eq_true h1
      subst ey
      have hb : a.bor = none := by simpa using h4
      refine (pe_callB (call_lenR q.2.1) (chkGl_ok h2 k) q.1 (by first | exact PyProof.Rows.boot_len | exact PyProof.Rows.Boot.len | rfl) (pa_cons (a.sound sc X _ W h5 k q.2.2 tk) pa_nil (notStar_ok h3)) (by decide) (by decide) (notStar_ok h3) (nostar_any rfl)).imp fun σ H Q h => ?_
      obtain ⟨fx, L, G, env, R, h⟩ := h
      refine ⟨fx, L, G, env, R, ER.post_mono (ER.post_bind h) (fun d e1 _ h v H1 G1 R1 s1 v1 => ?_) fun _ _ _ h => h⟩
      obtain ⟨d', ef, h⟩ := optE_post h
      obtain ⟨b, ef2, rfl⟩ := Option.map_eq_some_iff.mp ef
      rw [hb] at v1
      exact ⟨G1, d, v, b, rfl, ⟨R1.le, R1.tab.tabs, R1.tab.g⟩, v1, ef2, fun H' sm => h _ H' G1 (R1.growT sm) s1 rfl⟩
    · cases hc
/-! a[k] -/
def OwnIx (b : Expr) : Prop := ∀ (x i : Value), subscripted b true x i = runValue (.builtin "lifetime.subscript" ⟨[x, i], []⟩)
def notSlice2 : Expr → Bool
  | .Name _ _ => true
  | .Constant _ _ _ => true
  | .BinOp _ _ _ _ => true
  | .UnaryOp _ _ _ => true
  | .Call _ _ _ _ => true
  | .Subscript _ _ _ => true
  | .Attribute _ _ _ => true
  | _ => false
theorem notSlice2_ok {b : Expr} (h : notSlice2 b = true) : OwnIx b := by
  cases b <;> first | (exact Bool.noConfusion h) | (intro x i; with_unfolding_all rfl)
theorem pe_ixI {X : Cx} {a b : Expr} {ta tb : TE} {pos : Pos} {c : Str} {F : List D → FR} {E : St → XK} (q : OpRq (rq X) c "__getitem__" 2 F) (hx : ∀ σ, PassesAt (L2.CX X.prog X.w) X σ (E σ)) (ha : PE X a ta) (hb : PE X b tb) (hs' : OwnIx b) :
    PE X (.Subscript a b pos) (fun σ H Q => ta σ H fun x H1 => tb σ H1 fun y H2 => ∃ G dx, Le G H2 ∧ Rep X.K G dx x ∧ isIns c dx = true ∧ lift X.K 2 [] false F [x, y] H2 Q (E σ)) := by
  refine ⟨fun pins s σ H Q I h => ?_⟩
  refine PyProof.Rows.Subscript_ (binT ha hb I h fun v u s2 x y H2 I2 rx ry z => ?_)
  obtain ⟨G, dx, le, r1, g1, sp⟩ := z
  obtain ⟨kk, f, fd, ps, Fk, hr, hs, hf, hfn, hbd⟩ := q
  obtain ⟨m, hF⟩ := I2.fr
  cases dx with
  | ins c' fs =>
    have ec : c' = c := of_decide_eq_true g1
    subst ec
    obtain ⟨p, ddx, xs, rfl, hp, _⟩ := id r1
    have hp' := le.ex _ _ (notD_ins _ _ _) hp
    cases rx
    obtain ⟨mA, J, _⟩ := ins_get I2.hok hp'
    obtain ⟨od, J, _⟩ := J.look
    refine PySem.W.sub_K hF I2.ok.mod.kin J hs hfn hf ?_ (hs' _ _)
    have hl : ([Value.ref p, u] ++ ([] : List Value)).length = ps.length := by
      rw [← Fk.len _ _ _ _ sp]; rfl
    refine wpAny_call (codeAny_mono (Fk.run X.A.in1 X.stack s2 H2 ⟨[.ref p, u], []⟩ [.ref p, u] [.ref p, y] Q (E σ) (hr.mono (by omega) : Room (kk + 1) X.A).in1 I2.env0.in1 (hbd s2 [.ref p, u] I2.kIn hl) (.cons rfl (.cons ry .nil)) sp) fun r s' hq' => ?_)
    cases r with
    | error e => exact hx σ pins H2 s2 e s' I2 hq'
    | ok fl =>
      cases fl with
      | ret u => exact I2.after hq'
      | next => exact False.elim hq'
      | brk => exact False.elim hq'
      | cont => exact False.elim hq'
  | _ => cases g1
def evIxI (c : Str) (F : List D → FR) (a b : CE) (env : Env) : ER := (a.ev env).bind fun x e1 => (b.ev e1).bind fun y e2 => if isIns c x = true then evCall F [] [none, none] [x, y] e2 else .bad
def CE.ixI (c : Str) (F : List D → FR) (a b : CE) : CE where
  chk sc e := match e with | .Subscript x y _ => notSlice2 y && (a.chk sc x && (b.chk sc y && (a.bor.isNone && b.bor.isNone))) | _ => false
  req r := OpRq r c "__getitem__" 2 F ∧ a.req r ∧ b.req r
  bor := none
  pur := false
  ev := evIxI c F a b
  pok h := by cases h
  bok i h := by cases h
  sound sc X e W hc k q tk := by
    cases e with
    | Subscript x y pos =>
      obtain ⟨h1, h⟩ := and3 hc
      obtain ⟨h2, h⟩ := and3 h
      obtain ⟨h3, h⟩ := and3 h
      obtain ⟨h4, h5⟩ := and3 h
      have ha : a.bor = none := by simpa using h4
      have hb : b.bor = none := by simpa using h5
      refine (pe_ixI q.1 (fun σ => passAt tk σ) (a.sound sc X x W h2 k q.2.1 tk) (b.sound sc X y W h3 k q.2.2 tk) (notSlice2_ok h1)).imp fun σ H Q h => ?_
      obtain ⟨fx, L, G, env, R, h⟩ := h
      refine ⟨fx, L, G, env, R, ER.post_mono (ER.post_bind h) (fun dx e1 ea h x H1 G1 R1 s1 v1 => ?_) fun _ _ _ h => h⟩
      refine ⟨fx, L, G1, e1, R1, ER.post_mono (ER.post_bind h) (fun dy e2 eb h y H2 G2 R2 s2 v2 => ?_) (XW.mono s1)⟩
      rw [ha] at v1
      rw [hb] at v2
      split at h
      · rename_i g1
        have v1' := Rep.mono (Le.of_same s2) _ _ v1
        refine ⟨G2, dx, R2.le, v1', g1, ?_⟩
        exact call_to (sl := [none, none]) (dds := []) (dvs := []) (ds := [dx, dy]) (vs := [x, y]) (n := 2) (fr := false) R2 ⟨x, [y], rfl, v1', y, [], rfl, v2, rfl⟩ (by decide) (fun G => rfl) rfl (s1.trans s2) h
      · exact h.elim
    | _ => cases hc
end C

set_option maxRecDepth 100000
set_option maxHeartbeats 4000000
namespace C
open PySem L2 PySem.Spec PyProof.Rows
/-! ### x[::-1] -/
section
variable {prog : Program} {w : World} {A : Around} {E : Value → Shared → Prop} {s : Shared}
theorem sliceApplied_rev {sl : Addr} {vs : Value} {n : Nat} {Q : Int × Int × Nat → Shared → Prop} (hs : s.heap.IsSliceOf sl .none .none vs) (ps : IsPart vs (some (-1)))
    (h : Q ((n : Int) - 1, -1, n) s) : wpAny (model prog w) A (Builtin.Slice.sliceApplied (.ref sl) (pure (n : Int))) Q E s := by
  obtain ⟨os, hos, hcs, hds⟩ := id hs
  unfold Builtin.Slice.sliceApplied Builtin.Slice.sliceFields
  refine wpAny_bind (wpAny_bind (wpAny_field hos hds (x := .none) rfl (wpAny_bind (wpAny_field hos hds (x := .none) rfl (wpAny_bind (wpAny_field hos hds (x := vs) rfl (wpAny_pure ?_)))))))
  refine wpAny_bind (HT.slicePart_ ps ?_)
  show wpAny _ _ (if ((-1 : Int) == 0) = true then _ else _) _ _ s
  rw [if_neg (by decide)]
  refine wpAny_bind (HT.slicePart_ .none (wpAny_bind (HT.slicePart_ .none (wpAny_bind (wpAny_pure ?_)))))
  show wpAny _ _ (match Builtin.Slice.sliceAdjust none none (-1) (n : Int) with | (lo, hi) => pure (lo, (-1 : Int), Builtin.Slice.slicePlaces lo hi (-1))) _ _ s
  have e1 : Builtin.Slice.sliceAdjust none none (-1) (n : Int) = ((n : Int) - 1, -1) := rfl
  rw [e1]
  have e2 : Builtin.Slice.slicePlaces ((n : Int) - 1) (-1) (-1) = n := by
    unfold Builtin.Slice.slicePlaces
    have h1 : ¬ (-1 : Int) > 0 := by omega
    simp only [h1, if_false]
    split
    · rw [show (- -1 : Int) = 1 by decide, Int.ediv_one]; omega
    · omega
  show wpAny _ _ (pure ((n : Int) - 1, (-1 : Int), Builtin.Slice.slicePlaces ((n : Int) - 1) (-1) (-1))) _ _ s
  rw [e2]
  exact wpAny_pure h
theorem pick_rev (xs : Array Value) : ((List.range xs.size).filterMap fun (m : Nat) => xs[(((xs.size : Int) - 1) + (m : Int) * (-1)).toNat]?).toArray = xs.toList.reverse.toArray := by
  have e : (List.range xs.size).filterMap (fun (m : Nat) => xs[(((xs.size : Int) - 1) + (m : Int) * (-1)).toNat]?) = ((List.range xs.size).map (fun k => xs.size - 1 - k)).filterMap (xs[·]?) := by
    rw [List.filterMap_map]
    apply fm_congr
    intro m hm
    have := List.mem_range.mp hm
    show xs[_]? = xs[xs.size - 1 - m]?
    congr 1
    omega
  rw [e, PySem.W.krv_range, List.filterMap_reverse, PySem.W.krv_all]
theorem getItem_tuple_rev {t sl : Addr} {items : Array Value} {vs : Value} {Q : Value → Shared → Prop} (ht : IsTup s.heap t items) (hs : s.heap.IsSliceOf sl .none .none vs) (ps : IsPart vs (some (-1)))
    (h : Q (.ref s.heap.objs.size) { s with heap := s.heap.push { cls := .type "tuple", data := .seq items.toList.reverse.toArray } })
    (hsz : items.size ≤ sizeLine) : wpAny (model prog w) A (getItem (.ref t) (.ref sl)) Q E s := by
  have htake : sizeOk (.seq items.toList.reverse.toArray) := by
    show items.toList.reverse.toArray.size ≤ sizeLine
    rw [List.size_toArray, List.length_reverse, Array.length_toList]
    omega
  obtain ⟨os, hos, hcs, hds⟩ := id hs
  have hTs : s.TypeIs (.ref sl) "slice" := ⟨os, hos, hcs⟩
  unfold getItem
  try with_reducible refine wpAny_holding ?_
  first | refine wpAny_bind (wpAny_pure ?_) | skip
  refine wpAny_bind (wpAny_sequenceKey ht.typeIs (by decide) ?_)
  refine wpAny_bind (wpAny_callSpecial?_slot (name := Str.ofString "__getitem__") ht.typeIs PyProof.Rows.slot_tuple_getitem
    (wpAny_call_entry PyProof.Rows.slot_tuple_getitem ht.typeIs entry_tuple_getitem ?_ (args_tuple_getitem _ _)))
  show wpAny _ _ (Builtin.Tuple.tupleItemsOf (.ref t) >>= _) _ _ s
  refine wpAny_bind (tupleItemsOf_ ht ?_)
  refine wpAny_bind (wpAny_typeOf hTs ?_)
  rw [if_pos (by decide)]
  refine wpAny_bind (sliceApplied_rev hs ps ?_)
  have hno : ¬ ((((items.size : Int) - 1) == 0 && (-1 : Int) == 1 && items.size == items.size) = true) := by
    intro q
    rw [Bool.and_eq_true, Bool.and_eq_true] at q
    exact absurd q.1.2 (by decide)
  show wpAny _ _ (if (((items.size : Int) - 1) == 0 && (-1 : Int) == 1 && items.size == items.size) = true then _ else _) _ _ s
  rw [if_neg hno, pick_rev]
  first
    | exact wpAny_bind (m := Builtin.Tuple.tupleExact _) (wpAny_newObj_type (wpAny_pure ⟨_, rfl, wpAny_pure h⟩) htake)
    | exact wpAny_bind (m := Builtin.Tuple.tupleExact _) (wpAny_newObj_type (wpAny_bind (wpAny_pure (wpAny_pure ⟨_, rfl, wpAny_pure h⟩))) htake)
    | exact wpAny_bind (wpAny_bind (m := Builtin.Tuple.tupleExact _) (wpAny_newObj_type (wpAny_pure (wpAny_pure ⟨_, rfl, wpAny_pure h⟩)) htake))
    | exact wpAny_bind (wpAny_bind (m := Builtin.Tuple.tupleExact _) (wpAny_newObj_type (wpAny_pure ⟨_, rfl, wpAny_pure h⟩) htake))
end
def tRevA (K : PySem.W.Frag) (te : TE) : TE := fun σ H Q => te σ H fun x H1 => ∃ a xs, x = .ref a ∧ ((SqL K H1 a xs ∧ ∀ p, H1 p = none → Q (.ref p) (upd H1 p (.lst xs.reverse))) ∨ (SqT K H1 a xs ∧ ∀ p, H1 p = none → Q (.ref p) (upd H1 p (.tup xs.reverse))))
theorem pe_revA {X : Cx} {e : Expr} {te : TE} {k : Nat} {p1 p2 p3 pos : Pos} (he : PE X e te) : PE X (.Subscript e (.Slice none none (some (.UnaryOp .USub (.Constant (.int 1) k p1) p2)) p3) pos) (tRevA X.K te) := by
  refine ⟨fun pins s σ H Q I h => ?_⟩
  refine Subscript_ (thn (he.run pins s σ H _ I h) fun v s1 ⟨x, H1, I1, r1, q1⟩ => ?_)
  obtain ⟨a, xs, ex, hx⟩ := q1
  subst ex
  cases r1
  have hst : PO X (some (.UnaryOp .USub (.Constant (.int 1) k p1) p2)) (tPart (tUn (rU fun i => .int (-i)) (tC (.int 1)))) := po_some (pe_un un_neg pe_int)
  refine wpAny_Slice (thn (po_none.run pins s1 σ H1 (fun o H2 => o = none ∧ H2 = H1) I1 ⟨rfl, rfl⟩) fun vl s2 ⟨l, H2, I2, pl, el, e2⟩ => ?_)
  subst el e2
  refine thn (po_none.run pins s2 σ H2 (fun o H3 => o = none ∧ H3 = H2) I2 ⟨rfl, rfl⟩) fun vu s3 ⟨u, H3, I3, pu, eu, e3⟩ => ?_
  subst eu e3
  refine thn (hst.run pins s3 σ H3 (fun o H4 => o = some (-1) ∧ H4 = H3) I3 ⟨1, rfl, -1, rfl, rfl, rfl⟩) fun vs s4 ⟨o, H4, I4, ps, eo, e4⟩ => ?_
  subst eo e4
  have I5 : Inv X pins σ H4 { s4 with heap := s4.heap.push { cls := .type "slice", data := .fields #[vl, vu, vs] } } := I4.kept (t' := s4.toks) fun b ob q => Heap.get?_push_of_some _ q
  show wpAny (model X.prog X.w) X.A (subscriptTail e (.Slice none none (some (.UnaryOp .USub (.Constant (.int 1) k p1) p2)) p3) (.ref a) (.ref s4.heap.objs.size)) (EP X pins σ Q) X.xe { s4 with heap := s4.heap.push { cls := .type "slice", data := .fields #[vl, vu, vs] } }
  rcases hx with ⟨hx, q⟩ | ⟨hx, q⟩
  · obtain ⟨its, r, ht, hz⟩ := I5.list hx
    have hlen := r.length
    refine tail_any (ops := [.ref a, .ref s4.heap.objs.size]) ht.isList.typeIs (PySem.slot_list_getitem.lookup) ?_ (by with_unfolding_all rfl)
    refine wpAny_getItem_list_slice ht.isList (Heap.IsSliceOf.new _ vl vu vs) pl pu ps (by decide) ?_ (by rw [List.size_toArray]; omega)
    rw [PySem.W.krv_pick]
    refine ⟨.ref _, _, I5.laid (t' := s4.toks) (o := .lst xs.reverse) (fun b ob q => Heap.get?_push_of_some _ q) (Nat.le_refl _) ?_, rfl, q _ (I5.hok.fresh (Nat.le_refl _))⟩
    exact ⟨by rw [List.length_reverse]; exact hz, _, 0, r.reverse, Heap.get?_push_size _ rfl⟩
  · obtain ⟨its, r, ht, hz⟩ := I5.tuple hx
    have hlen := r.length
    cases pl
    cases pu
    refine tail_any (ops := [.ref a, .ref s4.heap.objs.size]) ht.typeIs (PyProof.Rows.slot_tuple_getitem.lookup) ?_ (by with_unfolding_all rfl)
    refine getItem_tuple_rev ht (Heap.IsSliceOf.new _ .none .none vs) ps ?_ (by rw [List.size_toArray]; omega)
    refine ⟨.ref _, _, I5.laid (t' := s4.toks) (o := .tup xs.reverse) (fun b ob q => Heap.get?_push_of_some _ q) (Nat.le_refl _) ?_, rfl, q _ (I5.hok.fresh (Nat.le_refl _))⟩
    exact ⟨by rw [List.length_reverse]; exact hz, _, r.reverse, IsTup.new _ _⟩
theorem Reps.append' {K : Fg} {G : Hp} : ∀ {l m : List D} {xs ys : List V}, Reps K G l xs → Reps K G m ys → Reps K G (l ++ m) (xs ++ ys)
  | [], m, xs, ys, h, h' => by cases h; exact h'
  | d :: l, m, xs, ys, h, h' => by
    obtain ⟨x, r, rfl, h1, h2⟩ := h
    exact ⟨x, _, rfl, h1, Reps.append' h2 h'⟩
theorem Reps.reverse {K : Fg} {G : Hp} : ∀ {l : List D} {xs : List V}, Reps K G l xs → Reps K G l.reverse xs.reverse
  | [], xs, h => by cases h; exact rfl
  | d :: l, xs, h => by
    obtain ⟨x, r, rfl, h1, h2⟩ := h
    rw [List.reverse_cons, List.reverse_cons]
    exact Reps.append' (Reps.reverse h2) ⟨x, [], rfl, h1, rfl⟩
def revD : D → Option D
  | .lst l => some (.lst l.reverse)
  | .tup (x :: l) => some (.tup (x :: l).reverse)
  | .tup [] => some (.tup [])
  | _ => none
def isRev : Expr → Option Expr
  | .Subscript x (.Slice none none (some (.UnaryOp .USub (.Constant (.int 1) _ _) _)) _) _ => some x
  | _ => none
def CE.rev (a : CE) : CE where
  chk sc e := match e with | .Subscript x (.Slice none none (some (.UnaryOp .USub (.Constant (.int 1) _ _) _)) _) _ => a.bor.isNone && a.chk sc x | _ => false
  req z := a.req z
  bor := none
  pur := false
  ev env := (a.ev env).bind fun x e1 => optE (revD x) e1
  pok h := by cases h
  bok i h := by cases h
  sound sc X e W hc k q tk := by
    split at hc
    · obtain ⟨h1, h2⟩ := and3 hc
      have b1 : a.bor = none := by simpa using h1
      refine (pe_revA (a.sound sc X _ W h2 k q tk)).imp fun σ H Q h => ?_
      obtain ⟨fx, L, G, env, R, h⟩ := h
      refine ⟨fx, L, G, env, R, ER.post_mono (ER.post_bind h) (fun d e1 _ h v H1 G1 R1 s1 r1 => ?_) fun _ _ _ h => h⟩
      rw [b1] at r1
      have vw : VW X.K G1 H1 d v := ⟨R1.le, .inl r1⟩
      obtain ⟨d', ef, hz⟩ := optE_post h
      clear h
      cases d with
      | lst l0 =>
        cases ef
        obtain ⟨p, xs, rfl, hp, rr⟩ := vw.lst
        refine ⟨p, xs, rfl, .inl ⟨SqL.of hp, fun w hw => ?_⟩⟩
        have sm := same_upd (o := .lst xs.reverse) (R1.gnone hw)
        exact hz _ _ _ (R1.alloc hw) (s1.trans sm) ⟨w, _, rfl, upd_same, Reps.mono (Le.of_same sm) _ _ rr.reverse⟩
      | tup l0 =>
        obtain ⟨p, xs, rfl, hp, rr⟩ := vw.tup
        have ed : d' = .tup l0.reverse := by
          cases l0 with
          | nil => cases ef; rfl
          | cons x l => cases ef; rfl
        subst ed
        refine ⟨p, xs, rfl, .inr ⟨hp, fun w hw => ?_⟩⟩
        have sm := same_upd (o := .tup xs.reverse) (R1.gnone hw)
        exact hz _ _ _ (R1.alloc hw) (s1.trans sm) ⟨w, _, rfl, .inl upd_same, Reps.mono (Le.of_same sm) _ _ rr.reverse⟩
      | _ => cases ef
    · cases hc
end C

set_option maxRecDepth 100000
set_option maxHeartbeats 4000000
namespace Cq
open PySem L2 PySem.Spec PyProof.Rows
/-! ### comprehensions of any number of clauses -/
/-- a comprehension: its clauses, and what it does with what it has found -/
structure Cmp (e : Expr) (gens : List Comprehension) (emit : Value → Env → Sem Unit) : Prop where
  cl : clausesOf e = gens
  ql : ∀ k it acc env, (Code.compLoop e k it acc env).quiet = true
  ul : ∀ (A : Around) k it acc env, A.under (Code.compLoop e k it acc env) = A
  dl : ∀ (prog : Program) (w : World) k it acc env, (model prog w).den (Code.compLoop e k it acc env) = (compTurn e k it acc env).onRaise (fun x => do noteFrame x env; theTreesLotGoes x)
  us : ∀ (A : Around) k it acc env, A.under (Code.compStart e k it acc env) = A
  ds : ∀ (prog : Program) (w : World) k it acc env, (model prog w).den (Code.compStart e k it acc env) = (compStart e k it acc env).onRaise (fun x => do noteFrame x env; standAt theWindowsPlace)
  mid : ∀ (k : Nat) (g g' : Comprehension) (it acc : Value) (env : Env), gens[k]? = some g → g.is_async = 0 → gens[k + 1]? = some g' → g'.is_async = 0 → compTurn e k it acc env = (do
      standAt g.iter.pos
      match ← pyNext it with
      | none => pure (.done .next)
      | some v =>
        letOwnedTupleGo g.target it v
        assign g.target env v
        let mut ok := true
        for c in g.ifs do
          if ok then ok ← PySem.isTrue c env (eval c env)
        if ok then
          let x ← eval g'.iter env
          standAt g'.iter.pos
          let x ← foldedSetIterable g'.iter env x
          let _ ← runOwn (.compStart e (k + 1) (← holding [x] (pyIter x)) acc env) env
        again (.compLoop e k it acc env))
  last : ∀ (k : Nat) (g : Comprehension) (it acc : Value) (env : Env), gens[k]? = some g → g.is_async = 0 → gens[k + 1]? = none → compTurn e k it acc env = (do
      standAt g.iter.pos
      match ← pyNext it with
      | none => pure (.done .next)
      | some v =>
        letOwnedTupleGo g.target it v
        assign g.target env v
        let mut ok := true
        for c in g.ifs do
          if ok then ok ← PySem.isTrue c env (eval c env)
        if ok then
          emit acc env
        again (.compLoop e k it acc env))
theorem cmp_list (elt : Expr) (gens : List Comprehension) (scope : Scope) (pos : Pos) : Cmp (.ListComp elt gens scope pos) gens (fun acc env => do let _ ← call (.builtin "list.append") [acc, ← eval elt env]) := by
  refine ⟨rfl, fun _ _ _ _ => rfl, fun _ _ _ _ _ => rfl, fun _ _ _ _ _ _ => rfl, fun _ _ _ _ _ => rfl, fun _ _ _ _ _ _ => rfl, fun k g g' it acc env hg h0 hg' h1 => ?_, fun k g it acc env hg h0 hg' => ?_⟩
  · unfold compTurn
    simp only [hg, hg', h0, h1]
    rfl
  · unfold compTurn
    simp only [hg, hg', h0]
    rfl
theorem cmp_dict (kx vx : Expr) (gens : List Comprehension) (scope : Scope) (pos : Pos) : Cmp (.DictComp kx vx gens scope pos) gens (fun acc env => do
        let kv ← eval kx env
        let vv ← holding [kv] (eval vx env)
        match acc with
        | .ref d => do
          standAt { kx.pos with endLine := vx.pos.endLine, endCol := vx.pos.endCol }
          holding [kv, vv] (dictSet d kv vv)
        | _ => unsupported "internal:dictcomp") := by
  refine ⟨rfl, fun _ _ _ _ => rfl, fun _ _ _ _ _ => rfl, fun _ _ _ _ _ _ => rfl, fun _ _ _ _ _ => rfl, fun _ _ _ _ _ _ => rfl, fun k g g' it acc env hg h0 hg' h1 => ?_, fun k g it acc env hg h0 hg' => ?_⟩
  · unfold compTurn
    simp only [hg, hg', h0, h1]
    rfl
  · unfold compTurn
    simp only [hg, hg', h0]
    rfl
section
variable {prog : Program} {w : World} {A : Around} {R : Result → Shared → Prop} {s : Shared} {e : Expr} {gens : List Comprehension} {emit : Value → Env → Sem Unit} {it acc : Value} {env : Env}
/-- what the tests behind a clause's store do -/
abbrev tests (ifs : List Expr) (env : Env) : Sem Bool := forIn ifs true fun c r => if r = true then do let ok ← PySem.isTrue c env (eval c env); pure (ForInStep.yield ok) else pure (ForInStep.yield r)
/-- the loop of the k-th clause, another one behind it -/
theorem loop_mid (hc : Cmp e gens emit) {k : Nat} {g g' : Comprehension} (hg : gens[k]? = some g) (h0 : g.is_async = 0) (hg' : gens[k + 1]? = some g') (h1 : g'.is_async = 0) (hs : ∀ x, foldedSetIterable g'.iter env x = pure x) (I : Nat → Shared → Prop)
    (turn : ∀ n s, I n s → wpAny (model prog w) A (pyNext it) (fun r s₁ => match r with
      | none => R (.ok .next) s₁
      | some v => wpAny (model prog w) A (letOwnedTupleGo g.target it v) (fun _ s₁' => wpAny (model prog w) A (assign g.target env v) (fun _ s₂ =>
          wpAny (model prog w) A (tests g.ifs env) (fun ok s₃ =>
            if ok = true then wpAny (model prog w) A (eval g'.iter env) (fun x s₄ => wpAny (model prog w) A (pyIter x) (fun it1 s₅ =>
              codeAny (model prog w) A (.compStart e (k + 1) it1 acc env) (fun r s' => match r with
                | .ok _ => ∃ m, m < n ∧ I m s'
                | .error _ => False) s₅) (fun _ _ => False) s₄) (fun _ _ => False) s₃
            else ∃ m, m < n ∧ I m s₃) (fun _ _ => False) s₂) (fun _ _ => False) s₁') (fun _ _ => False) s₁) (fun _ _ => False) s)
    (n : Nat) (h : I n s) :
    codeAny (model prog w) A (.compLoop e k it acc env) R s := by
  refine codeAny_loop (hc.ql _ _ _ _) I (fun n s hI => ?_) n h
  rw [hc.ul, hc.dl]
  refine wpAny_noted ?_
  rw [hc.mid k g g' it acc env hg h0 hg' h1]
  have no : ∀ (e : Value) (s' : Shared), False → notedBy (model prog w) A env (fun e s' => R (.error e) s') e s' := fun _ _ z => z.elim
  refine wpAny_bind (wpAny_standAt (wpAny_bind (wpAny_mono (turn n s hI) (fun r s₁ h₁ => ?_) fun _ _ z => z.elim)))
  cases r with
  | none => exact wpAny_pure h₁
  | some v =>
    refine wpAny_bind (wpAny_mono h₁ (fun _ s₁' h₁' => ?_) fun _ _ z => z.elim)
    refine wpAny_bind (wpAny_mono h₁' (fun _ s₂ h₂ => wpAny_bind (wpAny_mono h₂ (fun ok s₃ h₃ => ?_) fun _ _ z => z.elim)) fun _ _ z => z.elim)
    cases ok with
    | false => exact wpAny_pure ⟨rfl, h₃⟩
    | true =>
      refine wpAny_bind (wpAny_mono h₃ (fun x s₄ h₄ => ?_) fun _ _ z => z.elim)
      refine wpAny_bind (wpAny_standAt (wpAny_bind (wpAny_of_eq (hs x) (wpAny_bind (wpAny_holding (wpAny_mono h₄ (fun it1 s₅ h₅ => ?_) fun _ _ z => z.elim))))))
      refine wpAny_bind (wpAny_runOwn ?_)
      rw [Around.mark_none]
      refine codeAny_mono h₅ fun r s' hr => ?_
      cases r with
      | ok f =>
        first
          | exact wpAny_pure ⟨rfl, hr⟩
          | exact wpAny_bind (wpAny_pure (wpAny_pure ⟨rfl, hr⟩))
      | error e => exact hr.elim
/-- the loop of the last clause -/
theorem loop_last (hc : Cmp e gens emit) {k : Nat} {g : Comprehension} (hg : gens[k]? = some g) (h0 : g.is_async = 0) (hg' : gens[k + 1]? = none) (I : Nat → Shared → Prop)
    (turn : ∀ n s, I n s → wpAny (model prog w) A (pyNext it) (fun r s₁ => match r with
      | none => R (.ok .next) s₁
      | some v => wpAny (model prog w) A (letOwnedTupleGo g.target it v) (fun _ s₁' => wpAny (model prog w) A (assign g.target env v) (fun _ s₂ =>
          wpAny (model prog w) A (tests g.ifs env) (fun ok s₃ =>
            if ok = true then wpAny (model prog w) A (emit acc env) (fun _ s₄ => ∃ m, m < n ∧ I m s₄) (fun _ _ => False) s₃
            else ∃ m, m < n ∧ I m s₃) (fun _ _ => False) s₂) (fun _ _ => False) s₁') (fun _ _ => False) s₁) (fun _ _ => False) s)
    (n : Nat) (h : I n s) :
    codeAny (model prog w) A (.compLoop e k it acc env) R s := by
  refine codeAny_loop (hc.ql _ _ _ _) I (fun n s hI => ?_) n h
  rw [hc.ul, hc.dl]
  refine wpAny_noted ?_
  rw [hc.last k g it acc env hg h0 hg']
  refine wpAny_bind (wpAny_standAt (wpAny_bind (wpAny_mono (turn n s hI) (fun r s₁ h₁ => ?_) fun _ _ z => z.elim)))
  cases r with
  | none => exact wpAny_pure h₁
  | some v =>
    refine wpAny_bind (wpAny_mono h₁ (fun _ s₁' h₁' => ?_) fun _ _ z => z.elim)
    refine wpAny_bind (wpAny_mono h₁' (fun _ s₂ h₂ => wpAny_bind (wpAny_mono h₂ (fun ok s₃ h₃ => ?_) fun _ _ z => z.elim)) fun _ _ z => z.elim)
    cases ok with
    | false => exact wpAny_pure ⟨rfl, h₃⟩
    | true => exact wpAny_bind (wpAny_mono h₃ (fun _ s₅ h₅ => wpAny_pure ⟨rfl, h₅⟩) fun _ _ z => z.elim)
/-- a clause's start -/
theorem start_ok (hc : Cmp e gens emit) {k : Nat} {g : Comprehension} (hg : gens[k]? = some g) (h0' : g.is_async = 0) (h0 : codeAny (model prog w) A (.compLoop e k it acc env) R s)
    (h : wpAny (model prog w) A (pyIter it) (fun it' s' => codeAny (model prog w) A (.compLoop e k it' acc env) R s') (fun _ _ => False) s) :
    codeAny (model prog w) A (.compStart e k it acc env) R s := by
  refine codeAny_of_tree ?_
  rw [hc.us, hc.ds]
  refine wpAny_notedAt ?_
  unfold compStart
  rw [hc.cl, hg]
  simp only [Option.elim, h0']
  rw [if_neg (by decide)]
  refine wpAny_bind (wpAny_askSetting (wpAny_ite ?_))
  split
  · first
      | exact wpAny_bind (wpAny_pure (wpAny_pure (And.intro (hc.ql _ _ _ _) h0)))
      | exact wpAny_pure (And.intro (hc.ql _ _ _ _) h0)
  · first
      | exact wpAny_bind (wpAny_rule (wpAny_bind (wpAny_standAt (wpAny_bind (wpAny_mono h (fun it' s' h' => wpAny_pure (And.intro (hc.ql _ _ _ _) h')) fun _ _ x => x.elim)))))
      | (refine wpAny_bind (wpAny_rule ?_); show wpAny _ _ (standAt g.iter.pos >>= _) _ _ s; exact wpAny_bind (wpAny_standAt (wpAny_bind (wpAny_mono h (fun it' s' h' => wpAny_pure (And.intro (hc.ql _ _ _ _) h')) fun _ _ x => x.elim))))
end
/-! the wish -/
/-- what a clause does: its source, its store, its tests, its names -/
structure ClS where
  wi : TI
  g : TG
  tt : TT
  vs : List Nat
def vsOf : List ClS → List Nat
  | [] => []
  | c :: r => c.vs ++ vsOf r
abbrev TLf := L2.St → Hp → (Hp → Prop) → Prop
/-- the clauses r, and what is done with what they find; then Nx -/
def tIn (tl : TLf) : List ClS → L2.St → Hp → (Hp → Prop) → Prop
  | [], σ, H, Nx => tl σ H Nx
  | c :: r, σ, H, Nx => c.wi σ H fun J H1 => ∃ W : Nat → Nat → Hp → Prop, (∃ m, W 0 m H1) ∧ ∀ j k H, W j k H →
      (J.stop j H ∧ Nx H) ∨ (J.go j H ∧ ∃ Nx1 : Hp → Prop, (∀ H', Nx1 H' → ∃ k', k' < k ∧ W (j + 1) k' H') ∧ ∀ x H', J.yld j H x H' → c.g x (wipe σ (vsOf (c :: r))) H' fun σ3 H5 => wipe σ3 (vsOf (c :: r)) = wipe σ (vsOf (c :: r)) ∧ c.tt σ3 H5 fun b H6 =>
        if b = true then tIn tl r σ3 H6 Nx1 else Nx1 H6)
structure PCl0 (X : Cx) (c : Comprehension) (p : ClS) : Prop where
  g : PG X c.target p.g
  t : PTs X c.ifs p.tt
  as : c.is_async = 0
  fs : ∀ env x, foldedSetIterable c.iter env x = pure x
structure PCl (X : Cx) (c : Comprehension) (p : ClS) : Prop extends PCl0 X c p where
  it : PI X c.target c.iter p.wi
/-- what is done with what is found -/
def Lf (X : Cx) (emit : Sem Unit) (tl : TLf) : Prop := ∀ (pins : List (Addr × Obj)) (s : Shared) (σ : L2.St) (H : Hp) (Nx : Hp → Prop), Inv X pins σ H s → tl σ H Nx → wpAny (model X.prog X.w) X.A emit (fun _ s' => ∃ H', Inv X pins σ H' s' ∧ Nx H') (fun _ _ => False) s
inductive PCls (X : Cx) : List Comprehension → List ClS → Prop
  | nil : PCls X [] []
  | cons {c : Comprehension} {p : ClS} {cs : List Comprehension} {ps : List ClS} : PCl X c p → PCls X cs ps → PCls X (c :: cs) (p :: ps)
theorem drop_get {α : Type} {l : List α} {k : Nat} {c : α} {cs : List α} (h : l.drop k = c :: cs) : l[k]? = some c ∧ l.drop (k + 1) = cs := by
  have e1 : l[k]? = (l.drop k)[0]? := by rw [List.getElem?_drop, Nat.add_zero]
  refine ⟨by rw [e1, h]; rfl, ?_⟩
  rw [← List.tail_drop, h]; rfl
theorem drop_nil_get {α : Type} {l : List α} {k : Nat} (h : l.drop k = []) : l[k]? = none := by
  have e1 : l[k]? = (l.drop k)[0]? := by rw [List.getElem?_drop, Nat.add_zero]
  rw [e1, h]; rfl
theorem wipe_keep {σ σ3 : L2.St} {U Z : List Nat} (hw : wipe σ3 U = wipe σ U) (hv : ∀ i ∈ Z, i ∈ U) (j : Nat) (v : V) (e : (wipe σ U)[j]? = some (some v)) : (wipe σ3 Z)[j]? = some (some v) := by
  rw [← hw] at e
  obtain ⟨e1, e2⟩ := wipe_some e
  rw [L2.wipe_out fun z => e2 (hv j z)]
  exact e1
/-- a loop, and what its turns come to -/
theorem inn_core {X : Cx} {e : Expr} {gens : List Comprehension} {emit : Value → Env → Sem Unit} {acc : Value} {tl : TLf} (hcm : Cmp e gens emit) (hc : X.calm = true) (hxe : ∀ e s, X.xe e s → False) (lf : Lf X (emit acc X.env) tl) :
    ∀ (cs : List Comprehension) (ps : List ClS) (c : Comprehension) (p : ClS), PCl0 X c p → PCls X cs ps → ∀ (k : Nat), gens.drop k = c :: cs → ∀ (pins : List (Addr × Obj)) (σ : L2.St) (Nx : Hp → Prop) (R : Shared → Prop),
    (∀ σ' s' H', Inv X pins σ' H' s' → σ.length = σ'.length → (∀ (j : Nat) v, (wipe σ (vsOf (p :: ps)))[j]? = some (some v) → σ'[j]? = some (some v)) → Nx H' → R s') →
    ∀ (s : Shared) (it1 : Addr) (fp1 : List Addr) (tn1 : Nat → Heap → Prop) (J1 : It) (H : Hp), Inv X pins σ H s → L2.Turn X.prog X.w X.K c.target J1 fp1 it1 tn1 → tn1 0 s.heap → (∀ b ∈ fp1, FpOk X pins H b) →
    (∃ W : Nat → Nat → Hp → Prop, (∃ m, W 0 m H) ∧ ∀ j k H, W j k H →
      (J1.stop j H ∧ Nx H) ∨ (J1.go j H ∧ ∃ Nx1 : Hp → Prop, (∀ H', Nx1 H' → ∃ k', k' < k ∧ W (j + 1) k' H') ∧ ∀ x H', J1.yld j H x H' → p.g x (wipe σ (vsOf (p :: ps))) H' fun σ3 H5 => wipe σ3 (vsOf (p :: ps)) = wipe σ (vsOf (p :: ps)) ∧ p.tt σ3 H5 fun b H6 =>
        if b = true then tIn tl ps σ3 H6 Nx1 else Nx1 H6)) →
    codeAny (model X.prog X.w) X.A (.compLoop e k (.ref it1) acc X.env) (fun r s' => r = .ok .next ∧ R s') s := by
  have thnX : ∀ {α : Type} {t : Sem α} {Q Q' : α → Shared → Prop} {s : Shared}, wpAny (model X.prog X.w) X.A t Q X.xe s → (∀ a s, Q a s → Q' a s) → wpAny (model X.prog X.w) X.A t Q' (fun _ _ => False) s := fun h hQ => wpAny_mono h hQ fun e s z => hxe e s z
  intro cs
  induction cs with
  | nil =>
    intro ps c p pc pcs k hk pins σ Nx R hR s it1 fp1 tn1 J1 H I T1 st1 f1 hw
    obtain ⟨W1, ⟨m1, w1⟩, turn1⟩ := hw
    cases pcs
    obtain ⟨hg, hd⟩ := drop_get hk
    have stat1 : ∀ {H' : Hp}, (∀ b ∈ fp1, H' b = none) → ∀ b ∈ fp1, FpOk X pins H' b := fun hn b hb => ⟨hn b hb, (f1 b hb).2⟩
    refine loop_last hcm hg pc.as (drop_nil_get hd) (fun k s' => ∃ j H', Inv X pins (wipe σ (vsOf [p])) H' s' ∧ tn1 j s'.heap ∧ (∀ b ∈ fp1, H' b = none) ∧ W1 j k H') ?_ m1 ⟨0, H, I.weak (wipe_length _ _) (fun j v e => (wipe_some e).1), st1, fun b hb => (f1 b hb).1, w1⟩
    rintro n s12 ⟨j, H12, I12, st12, n12, w12⟩
    rcases turn1 j n H12 w12 with ⟨stop1, nx1⟩ | ⟨go1, Nx1, hNx1, step1⟩
    · refine thnF (T1.done X rfl rfl rfl hc j _ s12 _ H12 (fun _ _ => False) I12 (stat1 n12) st12 stop1) fun r s13 ⟨hr, I13⟩ => ?_
      subst hr
      exact ⟨rfl, hR _ _ _ I13 (wipe_length _ _).symm (fun j v e => e) nx1⟩
    · refine thnF (T1.item X rfl rfl rfl hc j _ s12 _ H12 (fun _ _ => False) I12 (stat1 n12) st12 go1) fun r s13 ⟨u1, hr, h13⟩ => ?_
      subst hr
      refine thnF h13 fun _ s14 ⟨x1, H14, I14, r14, y14, st14, n14⟩ => ?_
      have I14' := I14.pinned (stat1 n14) (T1.obj _ _ st14)
      refine thnX (pc.g.run _ s14 _ H14 x1 u1 _ I14' r14 (step1 x1 H14 y14)) fun _ s15 ⟨σ15, H15, I15, hw15, q15⟩ => ?_
      refine thnX (pc.t.run _ s15 σ15 H15 _ I15 q15) fun b1 s16 ⟨H16, I16, q16⟩ => ?_
      have fin1 : ∀ {s' : Shared} {H' : Hp}, Inv X (pins ++ pinsAt fp1 s14.heap) σ15 H' s' → Nx1 H' → ∃ m, m < n ∧ ∃ j H', Inv X pins (wipe σ (vsOf [p])) H' s' ∧ tn1 j s'.heap ∧ (∀ b ∈ fp1, H' b = none) ∧ W1 j m H' := fun {s' H'} I' nx => by
        obtain ⟨m', hm, w'⟩ := hNx1 H' nx
        have pin' : ∀ b ∈ fp1, ∀ o, s14.heap.get? b = some o → s'.heap.get? b = some o ∧ H' b = none := fun b hb o e =>
          let z := I'.pin (b, o) (List.mem_append_right _ (List.mem_append_right _ (mem_pinsAt hb e)))
          ⟨z.1, z.2.1⟩
        refine ⟨m', hm, j + 1, H', I'.unpinned.weak (by rw [← hw15, wipe_length]) (fun j v e => by rw [← hw15] at e; exact (wipe_some e).1), T1.keep _ _ _ st14 fun b hb o e => (pin' b hb o e).1, fun b hb => ?_, w'⟩
        obtain ⟨o, e, _⟩ := T1.obj _ _ st14 b hb
        exact (pin' b hb o e).2
      cases b1 with
      | false =>
        simp only [Bool.false_eq_true, if_false] at q16 ⊢
        exact fin1 I16 q16
      | true =>
        simp only [if_true] at q16 ⊢
        exact thnF (lf _ s16 σ15 H16 _ I16 q16) fun _ s17 ⟨H17, I17, nx⟩ => fin1 I17 nx
  | cons c' cs ih =>
    intro ps c p pc pcs k hk pins σ Nx R hR s it1 fp1 tn1 J1 H I T1 st1 f1 hw
    obtain ⟨W1, ⟨m1, w1⟩, turn1⟩ := hw
    cases pcs with
    | cons pc' pcs' =>
      rename_i p' ps'
      obtain ⟨hg, hd⟩ := drop_get hk
      obtain ⟨hg', _⟩ := drop_get hd
      have stat1 : ∀ {H' : Hp}, (∀ b ∈ fp1, H' b = none) → ∀ b ∈ fp1, FpOk X pins H' b := fun hn b hb => ⟨hn b hb, (f1 b hb).2⟩
      refine loop_mid hcm hg pc.as hg' pc'.as (pc'.fs X.env) (fun k s' => ∃ j H', Inv X pins (wipe σ (vsOf (p :: p' :: ps'))) H' s' ∧ tn1 j s'.heap ∧ (∀ b ∈ fp1, H' b = none) ∧ W1 j k H') ?_ m1 ⟨0, H, I.weak (wipe_length _ _) (fun j v e => (wipe_some e).1), st1, fun b hb => (f1 b hb).1, w1⟩
      rintro n s12 ⟨j, H12, I12, st12, n12, w12⟩
      rcases turn1 j n H12 w12 with ⟨stop1, nx1⟩ | ⟨go1, Nx1, hNx1, step1⟩
      · refine thnF (T1.done X rfl rfl rfl hc j _ s12 _ H12 (fun _ _ => False) I12 (stat1 n12) st12 stop1) fun r s13 ⟨hr, I13⟩ => ?_
        subst hr
        exact ⟨rfl, hR _ _ _ I13 (wipe_length _ _).symm (fun j v e => e) nx1⟩
      · refine thnF (T1.item X rfl rfl rfl hc j _ s12 _ H12 (fun _ _ => False) I12 (stat1 n12) st12 go1) fun r s13 ⟨u1, hr, h13⟩ => ?_
        subst hr
        refine thnF h13 fun _ s14 ⟨x1, H14, I14, r14, y14, st14, n14⟩ => ?_
        have I14' := I14.pinned (stat1 n14) (T1.obj _ _ st14)
        refine thnX (pc.g.run _ s14 _ H14 x1 u1 _ I14' r14 (step1 x1 H14 y14)) fun _ s15 ⟨σ15, H15, I15, hw15, q15⟩ => ?_
        refine thnX (pc.t.run _ s15 σ15 H15 _ I15 q15) fun b1 s16 ⟨H16, I16, q16⟩ => ?_
        have fin1 : ∀ {σ9 : L2.St} {s' : Shared} {H' : Hp}, Inv X (pins ++ pinsAt fp1 s14.heap) σ9 H' s' → σ15.length = σ9.length → (∀ (j : Nat) v, (wipe σ15 (vsOf (p' :: ps')))[j]? = some (some v) → σ9[j]? = some (some v)) → Nx1 H' → ∃ m, m < n ∧ ∃ j H', Inv X pins (wipe σ (vsOf (p :: p' :: ps'))) H' s' ∧ tn1 j s'.heap ∧ (∀ b ∈ fp1, H' b = none) ∧ W1 j m H' := fun {σ9 s' H'} I' hl hkk nx => by
          obtain ⟨m', hm, w'⟩ := hNx1 H' nx
          have pin' : ∀ b ∈ fp1, ∀ o, s14.heap.get? b = some o → s'.heap.get? b = some o ∧ H' b = none := fun b hb o e =>
            let z := I'.pin (b, o) (List.mem_append_right _ (List.mem_append_right _ (mem_pinsAt hb e)))
            ⟨z.1, z.2.1⟩
          refine ⟨m', hm, j + 1, H', I'.unpinned.weak (by rw [← hl, ← hw15, wipe_length]) (fun j v e => hkk j v (wipe_keep hw15 (fun i hi => List.mem_append_right _ hi) j v e)), T1.keep _ _ _ st14 fun b hb o e => (pin' b hb o e).1, fun b hb => ?_, w'⟩
          obtain ⟨o, e, _⟩ := T1.obj _ _ st14 b hb
          exact (pin' b hb o e).2
        cases b1 with
        | false =>
          simp only [Bool.false_eq_true, if_false] at q16 ⊢
          exact fin1 I16 rfl (fun j v e => (wipe_some e).1) q16
        | true =>
          simp only [if_true] at q16 ⊢
          refine thnX (pc'.it.run _ s16 σ15 H16 _ I16 q16) fun xv s17 hx => thnX hx fun itv s18 h18 => ?_
          obtain ⟨it2, fp2, tn2, J2, H18, e2, I18, T2, st18, f18, q18⟩ := h18
          subst e2
          have lp := ih ps' c' p' pc'.toPCl0 pcs' (k + 1) hd _ σ15 Nx1 (fun s' => ∃ m, m < n ∧ ∃ j H', Inv X pins (wipe σ (vsOf (p :: p' :: ps'))) H' s' ∧ tn1 j s'.heap ∧ (∀ b ∈ fp1, H' b = none) ∧ W1 j m H') (fun σ' s' H' I' hl hkk nx => fin1 I' hl hkk nx) s18 it2 fp2 tn2 J2 H18 I18 T2 st18 f18 q18
          have lp' : codeAny (model X.prog X.w) X.A (.compLoop e (k + 1) (.ref it2) acc X.env) (fun r s' => match r with
                | .ok _ => ∃ m, m < n ∧ ∃ j H', Inv X pins (wipe σ (vsOf (p :: p' :: ps'))) H' s' ∧ tn1 j s'.heap ∧ (∀ b ∈ fp1, H' b = none) ∧ W1 j m H'
                | .error _ => False) s18 := codeAny_mono lp fun r s' h => by
            obtain ⟨rfl, h⟩ := h
            exact h
          exact start_ok hcm hg' pc'.as lp' (T2.self X.A 0 _ _ _ st18 lp')
/-! the whole -/
/-- what a comprehension makes: the object that it begins with -/
structure Acc where
  new : Sem Value
  ob : Obj
  ho : HO
def aLst : Acc := ⟨newList [], { cls := .type "list", data := .seq ([] : List Value).toArray }, .lst []⟩
def aDct (o : HO) : Acc := ⟨newDict, { cls := .type "dict", data := .dict #[] }, o⟩
structure AccOk (a : Acc) : Prop where
  lay : ∀ {P : Program} {w : World} {A : Around} {E : Value → Shared → Prop} {s : Shared} {Q : Value → Shared → Prop}, Q (.ref s.heap.objs.size) { s with heap := s.heap.push a.ob } → wpAny (model P w) A a.new Q E s
  ok : ∀ {X : Cx} {pins : List (Addr × Obj)} {σ : L2.St} {H : Hp} {s : Shared}, Inv X pins σ H s → ObjOk X.prog X.w (upd H s.heap.objs.size a.ho) (s.heap.push a.ob) s.heap.objs.size a.ho
def tLcN (a : Acc) (p : ClS) (ps : List ClS) (tl : Addr → TLf) (own : List Nat) : TE := fun σ H Q => p.wi σ H fun J H1 => ∀ D, H1 D = none → ∃ W : Nat → Nat → Hp → Prop, (∃ m, W 0 m (upd H1 D a.ho)) ∧ ∀ i m H, W i m H →
  (J.stop i H ∧ Q (.ref D) H) ∨ (J.go i H ∧ ∃ Nx1 : Hp → Prop, (∀ H', Nx1 H' → ∃ m', m' < m ∧ W (i + 1) m' H') ∧ ∀ x H', J.yld i H x H' → p.g x (wipe (wipe σ own) (vsOf (p :: ps))) H' fun σ3 H5 => wipe σ3 (vsOf (p :: ps)) = wipe (wipe σ own) (vsOf (p :: ps)) ∧ p.tt σ3 H5 fun b H6 =>
        if b = true then tIn (tl D) ps σ3 H6 Nx1 else Nx1 H6)
theorem lcN_core {X : Cx} {pins : List (Addr × Obj)} {s : Shared} {σ : L2.St} {H : Hp} {Q : VK} {e : Expr} {c : Comprehension} {cs : List Comprehension} {emit : Value → Env → Sem Unit} {scope : Scope} {own : List (Str × Nat)} {pos' : Pos} {a : Acc} {p : ClS} {ps : List ClS} {tl : Addr → TLf} {use : Option (Value → Sem Unit)} {Qf : Value → Shared → Prop}
    (hcm : Cmp e (c :: cs) emit) (ha : AccOk a) (hc : X.calm = true) (hN : X.N.Nodup) (I : Inv X pins σ H s) (hi : PI X c.target c.iter p.wi) (ok : BlkOk X.N X.env.scope scope own)
    (has : c.is_async = 0) (hs : ∀ env x, foldedSetIterable c.iter env x = pure x)
    (hg : ∀ (s : Shared) (H : Hp) (C : Addr) (cl : List (Str × Addr)) (fp : List Addr), PG (X.blk s H scope (compEnvC scope cl C X.env) fp) c.target p.g ∧ PTs (X.blk s H scope (compEnvC scope cl C X.env) fp) c.ifs p.tt ∧ PCls (X.blk s H scope (compEnvC scope cl C X.env) fp) cs ps)
    (hl : ∀ (s : Shared) (H : Hp) (C : Addr) (cl : List (Str × Addr)) (fp : List Addr) (D : Addr), Lf (X.blk s H scope (compEnvC scope cl C X.env) fp) (emit (.ref D) (compEnvC scope cl C X.env)) (tl D))
    (h : tLcN a p ps tl (own.map (·.2)) σ H Q)
    (hRR : ∀ D C s' m H', Inv X pins σ H' s' → Q (.ref D) H' → s'.heap.Ns C m → FpOk X pins H' C → compPost (model X.prog X.w) X.A X.xe use Qf (.ref D) C (.ok .next) s') :
    wpAny (model X.prog X.w) X.A (comprehension e scope X.env pos' a.new false (eval c.iter X.env) use) Qf X.xe s := by
  have hfree : ∀ y ∈ scope.names, y.2 = .free → ∃ c, X.env.cells.lookup y.1 = some c := fun y hy e => by
    rcases ok.free y hy e with k | k
    · exact I.ok.has _ (.inl k)
    · exact I.ok.has _ (.inr k)
  refine wpAny_comprehension_free (use := use) hcm.cl (hs X.env) (closure_ok hfree) ok.kind (fun y hy e => by rw [ok.uniq y hy, e])
    (thn (hi.run pins s σ H _ I h) fun xv s1 hx => thn hx fun itv s2 h2 => ?_)
  obtain ⟨it, fp, tn, J, H2, ee, I2, T, st2, f2, q⟩ := h2
  subst ee
  refine ha.lay (newEnv_comp ?_)
  generalize hD : s2.heap.objs.size = D
  have hDn : H2 D = none := I2.hok.fresh (Nat.le_of_eq hD)
  have qD := q D hDn
  generalize hs3 : ({ s2 with heap := s2.heap.push a.ob } : Shared) = s3
  have I3 : Inv X pins σ (upd H2 D a.ho) s3 := by
    rw [← hs3]
    refine I2.laid (t' := s2.toks) (fun b o e => Heap.get?_push_of_some _ e) (Nat.le_of_eq hD) ?_
    rw [← hD]
    exact ha.ok I2
  have h3 : s3.heap = s2.heap.push a.ob := by rw [← hs3]
  have sz : ∀ b ∈ fp, b < s2.heap.objs.size := fun b hb => by
    obtain ⟨o, e, _⟩ := T.obj _ _ st2 b hb
    exact Heap.lt_size e
  have f3 : ∀ b ∈ fp, FpOk X pins (upd H2 D a.ho) b ∧ b < s3.heap.objs.size := fun b hb => by
    have hlt := sz b hb
    refine ⟨⟨?_, (f2 b hb).2⟩, by rw [h3, Heap.size_push]; exact Nat.lt_succ_of_lt hlt⟩
    rw [upd_ne (by rw [← hD]; exact Nat.ne_of_lt hlt)]
    exact (f2 b hb).1
  have st3 : tn 0 s3.heap := T.keep _ _ _ st2 fun b _ o e => by rw [h3]; exact Heap.get?_push_of_some _ e
  have I4 := block_start I3 ok hN f3
  obtain ⟨pg, pt, pcs⟩ := hg s3 (upd H2 D a.ho) s3.heap.objs.size (cellsFrom (s3.heap.objs.size + 1) scope.names (cloFrom X.env.cells scope.names [])) fp
  have lf := hl s3 (upd H2 D a.ho) s3.heap.objs.size (cellsFrom (s3.heap.objs.size + 1) scope.names (cloFrom X.env.cells scope.names [])) fp D
  show codeAny _ _ (.compStart e 0 (.ref it) (.ref D) (compEnvC scope (cellsFrom (s3.heap.objs.size + 1) scope.names (cloFrom X.env.cells scope.names [])) s3.heap.objs.size X.env)) (compPost (model X.prog X.w) X.A X.xe use Qf (.ref D) s3.heap.objs.size) { s3 with heap := pushCells (s3.heap.push { cls := .type "dict", data := .dict #[] }) scope.names }
  have nfp : ∀ b ∈ fp, (upd H2 D a.ho) b = none := fun b hb => (f3 b hb).1.1
  generalize hce : compEnvC scope (cellsFrom (s3.heap.objs.size + 1) scope.names (cloFrom X.env.cells scope.names [])) s3.heap.objs.size X.env = ce at I4 pg pt pcs lf ⊢
  have cL : ce.locals = s3.heap.objs.size := by subst hce; rfl
  generalize hH3 : upd H2 D a.ho = H3 at I3 I4 pg pt pcs lf qD nfp f3
  generalize hs4 : ({ s3 with heap := pushCells (s3.heap.push { cls := .type "dict", data := .dict #[] }) scope.names } : Shared) = s4 at I4 ⊢
  have st4 : tn 0 s4.heap := T.keep _ _ _ st3 fun b _ o e => by rw [← hs4]; exact pushCells_keeps _ _ _ _ (Heap.get?_push_of_some _ e)
  have stat : ∀ {σ' : L2.St} {H' : Hp} {s' : Shared}, Inv (X.blk s3 H3 scope ce fp) [] σ' H' s' → (∀ b ∈ fp, H' b = none) → ∀ b ∈ fp, FpOk (X.blk s3 H3 scope ce fp) [] H' b := fun {σ' H' s'} I' hn b hb =>
    ⟨hn b hb, (I'.ok.exf b hb).1, I'.ok.exfs b hb, .inl hb, fun x c e => (I'.ok.exf b hb).2 x c e, fun p hp => absurd (show p ∈ ([] : List (Addr × Obj)) ++ [] from hp) (by simp)⟩
  have lp := inn_core (X := X.blk s3 H3 scope ce fp) (acc := .ref D) hcm hc (fun _ _ z => z) lf cs ps c p ⟨pg, pt, has, hs⟩ pcs 0 rfl [] (wipe σ (own.map (·.2))) (fun H' => Q (.ref D) H') (fun s' => compPost (model X.prog X.w) X.A X.xe use Qf (.ref D) s3.heap.objs.size (.ok .next) s') (fun σ' s6 H5 I6 _ _ qq => by
    have I7 : Inv X pins σ H5 s6 := I3.call' (ch := fp) I6.os I6.base I6.hok I6.bare fun b hb => ⟨(f3 b hb).1.2.2.2.1, (f3 b hb).1.2.1, (f3 b hb).1.2.2.2.2.1, (f3 b hb).1.2.2.2.2.2⟩
    have nC : H5 s3.heap.objs.size = none := by
      have z : H5 ce.locals = none := I6.free
      rw [cL] at z
      exact z
    obtain ⟨m, hn, _⟩ := I6.loc
    have hn : s6.heap.Ns ce.locals m := hn
    rw [cL] at hn
    exact hRR D s3.heap.objs.size s6 m H5 I7 qq hn (I3.fpOk (Nat.le_refl _) nC)) s4 it fp tn J H3 I4 T st4 (stat I4 nfp) qD
  have lp' : codeAny (model X.prog X.w) X.A (.compLoop e 0 (.ref it) (.ref D) ce) (compPost (model X.prog X.w) X.A X.xe use Qf (.ref D) s3.heap.objs.size) s4 := codeAny_mono lp fun r s' h => by
    obtain ⟨rfl, h⟩ := h
    exact h
  exact start_ok hcm (by rfl) has lp' (T.self X.A 0 _ _ _ st4 lp')
end Cq

set_option maxRecDepth 100000
set_option maxHeartbeats 4000000
namespace C
open PySem L2
/-! ### comprehensions of any number of clauses, read -/
structure Cl where
  vs : List Nat
  g : CG
  c : CI
  t : Option CT
def Cl.vl : List Cl → List Nat
  | [] => []
  | c :: r => c.vs ++ Cl.vl r
/-- a clause's turns: k is what stands behind it, U the names from it on -/
def clE (g : D → Env → Option Env) (t : Env → TR) (U : List Nat) (k : D → Env → Option (D × Env)) : List D → D → Env → Option (D × Env)
  | [], acc, env => some (acc, env)
  | x :: l, acc, env => match g x env with
    | none => none
    | some e1 => match t e1 with
      | .ok true e2 => (match k acc e2 with
        | some (acc', e3) => clE g t U k l acc' (wipeE e3 U)
        | none => none)
      | .ok false e2 => clE g t U k l acc (wipeE e2 U)
      | _ => none
def innE (leaf : D → Env → Option (D × Env)) : List Cl → D → Env → Option (D × Env)
  | [], acc, env => leaf acc env
  | c :: r, acc, env => match c.c.ev env with
    | .ok ds e0 => clE c.g.asg (tsE c.t) (Cl.vl (c :: r)) (innE leaf r) ds acc (wipeE e0 (Cl.vl (c :: r)))
    | _ => none
theorem wipe_sub {σ : St} {U V : List Nat} (h : ∀ i ∈ U, i ∈ V) : L2.wipe (L2.wipe σ U) V = L2.wipe σ V := by
  apply List.ext_getElem?
  intro i
  by_cases hV : i ∈ V
  · by_cases hl : i < σ.length
    · rw [wipe_in hV (by rw [wipe_length]; exact hl), wipe_in hV hl]
    · rw [List.getElem?_eq_none (by rw [wipe_length, wipe_length]; omega), List.getElem?_eq_none (by rw [wipe_length]; omega)]
  · rw [L2.wipe_out hV, L2.wipe_out hV, L2.wipe_out fun z => hV (h i z)]
def clS (sc : SC) (K : Fg) (c : Cl) : Cq.ClS := ⟨tI sc K c.c.ev (fun _ _ _ _ => False), tG sc K c.g.slots c.g.asg, tT sc K (tsE c.t) (fun _ _ _ _ => False), c.vs⟩
theorem vsOf_clS (sc : SC) (K : Fg) : ∀ cs : List Cl, Cq.vsOf (cs.map (clS sc K)) = Cl.vl cs
  | [] => rfl
  | c :: r => by
    show c.vs ++ Cq.vsOf (r.map (clS sc K)) = c.vs ++ Cl.vl r
    rw [vsOf_clS sc K r]
/-- what stands behind the clauses -/
def LeafTo (sc : SC) (K : Fg) (fx : Fx) (L : List Addr) (D0 : Addr) (leaf : D → Env → Option (D × Env)) (tl : Cq.TLf) : Prop :=
  ∀ (σ : St) (H G : Hp) (env : Env) (d : D) (ho : HO) (d' : D) (e' : Env) (Nx : Hp → Prop), Rel sc K (fx.with D0 ho) L G H σ env → ORep K G d ho → leaf d env = some (d', e') →
    (∀ H' G' ho', Rel sc K (fx.with D0 ho') L G' H' σ e' → Same G G' → ORep K G' d' ho' → Nx H') → tl σ H Nx
/-- the turns of one clause -/
theorem cl_turns {sc : SC} {K : Fg} {fx : Fx} {L : List Addr} {D0 : Addr} {tl : Cq.TLf} {c : Cl} {r : List Cl} {leaf : D → Env → Option (D × Env)} (hv : ∀ i ∈ Cl.vl (c :: r), i ∉ sc.ow) (hs : ∀ i ∈ c.g.slots, i ∈ c.vs)
    (ih : ∀ (σ : St) (H G : Hp) (env : Env) (d : D) (ho : HO) (d' : D) (e' : Env) (Nx : Hp → Prop), Rel sc K (fx.with D0 ho) L G H σ env → ORep K G d ho → innE leaf r d env = some (d', e') →
      (∀ H' G' ho', Rel sc K (fx.with D0 ho') L G' H' (L2.wipe σ (Cl.vl r)) e' → Same G G' → ORep K G' d' ho' → Nx H') → Cq.tIn tl (r.map (clS sc K)) σ H Nx)
    {σ0 σ : St} {G1 H1 : Hp} {e1 : Env} {d : D} {ho : HO} {ds : List D} {J : It} {d' : D} {eF : Env} {Nx : Hp → Prop} (R1 : Rel sc K (fx.with D0 ho) L G1 H1 (L2.wipe σ (Cl.vl (c :: r))) e1) (wk : Walks K J G1 ds) (ro : ORep K G1 d ho)
    (hno : ∀ i ∈ Cl.vl (c :: r), ∀ d, e1[i]? ≠ some (some d)) (hE : clE c.g.asg (tsE c.t) (Cl.vl (c :: r)) (innE leaf r) ds d e1 = some (d', eF))
    (fin : ∀ H' G' ho', Rel sc K (fx.with D0 ho') L G' H' (L2.wipe σ (Cl.vl (c :: r))) eF → Same G1 G' → ORep K G' d' ho' → (∀ i ∈ Cl.vl (c :: r), ∀ d, eF[i]? ≠ some (some d)) → Nx H') :
    ∃ W : Nat → Nat → Hp → Prop, (∃ m, W 0 m H1) ∧ ∀ j k H, W j k H →
      (J.stop j H ∧ Nx H) ∨ (J.go j H ∧ ∃ Nx1 : Hp → Prop, (∀ H', Nx1 H' → ∃ k', k' < k ∧ W (j + 1) k' H') ∧ ∀ x H', J.yld j H x H' → (clS sc K c).g x (L2.wipe σ (Cl.vl (c :: r))) H' fun σ3 H5 => L2.wipe σ3 (Cl.vl (c :: r)) = L2.wipe σ (Cl.vl (c :: r)) ∧ (clS sc K c).tt σ3 H5 fun b H6 =>
        if b = true then Cq.tIn tl (r.map (clS sc K)) σ3 H6 Nx1 else Nx1 H6) := by
  generalize hV : Cl.vl (c :: r) = V at *
  have hsV : ∀ i ∈ c.g.slots, i ∈ V := fun i hi => by rw [← hV]; exact List.mem_append_left _ (hs i hi)
  have hrV : ∀ i ∈ Cl.vl r, i ∈ V := fun i hi => by rw [← hV]; exact List.mem_append_right _ hi
  refine ⟨fun i m H => m + i = ds.length ∧ ∃ G2 e2 dd ho2, Rel sc K (fx.with D0 ho2) L G2 H (L2.wipe σ V) e2 ∧ Same G1 G2 ∧ ORep K G2 dd ho2 ∧ (∀ i ∈ V, ∀ d, e2[i]? ≠ some (some d)) ∧ clE c.g.asg (tsE c.t) V (innE leaf r) (ds.drop i) dd e2 = some (d', eF), ⟨ds.length, rfl, G1, e1, d, ho, R1, Same.refl _, ro, hno, hE⟩, ?_⟩
  rintro i m H ⟨hm, G2, e2, dd, ho2, RG, s2, ra, hno2, hl⟩
  obtain ⟨go, st⟩ := wk G2 H s2 RG.le
  cases ei : ds[i]? with
  | none =>
    have hle : ds.length ≤ i := List.getElem?_eq_none_iff.mp ei
    rw [List.drop_eq_nil_of_le hle] at hl
    cases hl
    exact .inl ⟨st i hle, fin H G2 ho2 RG s2 ra hno2⟩
  | some x0 =>
    have hlt : i < ds.length := (List.getElem?_eq_some_iff.mp ei).1
    have ed : ds.drop i = x0 :: ds.drop (i + 1) := by rw [List.drop_eq_getElem_cons hlt, (List.getElem?_eq_some_iff.mp ei).2]
    rw [ed] at hl
    unfold clE at hl
    obtain ⟨g1, g2⟩ := go i x0 ei
    refine .inr ⟨g1, fun H' => ∃ G3 e3 dd ho, Rel sc K (fx.with D0 ho) L G3 H' (L2.wipe σ V) e3 ∧ Same G1 G3 ∧ ORep K G3 dd ho ∧ (∀ i ∈ V, ∀ d, e3[i]? ≠ some (some d)) ∧ clE c.g.asg (tsE c.t) V (innE leaf r) (ds.drop (i + 1)) dd e3 = some (d', eF), fun H' z => ⟨m - 1, by omega, by omega, z⟩, fun x H3 y => ?_⟩
    obtain ⟨G3, nw, rx⟩ := g2 x H3 y
    have RG3 := RG.grow nw.1 nw.2.1 nw.2.2.1 (nw.2.2.2 RG.tab.g)
    refine ⟨_, L, G3, e2, x0, RG3, rx, ?_⟩
    cases eg : c.g.asg x0 e2 with
    | none => rw [eg] at hl; cases hl
    | some e4 =>
      simp only [eg] at hl
      intro σ2 R4 w4
      have ww := w4 V hsV
      rw [wipe_idem] at ww
      refine ⟨ww, _, L, G3, e4, R4, ?_⟩
      cases et : tsE c.t e4 with
      | bad => rw [et] at hl; cases hl
      | exc _ _ _ => rw [et] at hl; cases hl
      | ok b e5 =>
        intro H5 G5 R5 s5
        cases b with
        | false =>
          rw [et] at hl
          refine iteF ⟨G5, wipeE e5 V, dd, ho2, ?_, (s2.trans nw.2.1).trans s5, ORep.mono (Le.of_same (nw.2.1.trans s5)) ra, wipeE_no, hl⟩
          have := R5.wipe V hv
          rw [ww] at this
          exact this
        | true =>
          rw [et] at hl
          cases ek : innE leaf r dd e5 with
          | none => simp only [ek] at hl; cases hl
          | some q =>
            obtain ⟨d6, e6⟩ := q
            simp only [ek] at hl
            refine iteT (ih σ2 H5 G5 e5 dd ho2 d6 e6 _ R5 (ORep.mono (Le.of_same (nw.2.1.trans s5)) ra) ek fun H6 G6 ho6 R6 s6 ro6 => ?_)
            refine ⟨G6, wipeE e6 V, d6, ho6, ?_, ((s2.trans nw.2.1).trans s5).trans s6, ro6, wipeE_no, hl⟩
            have := R6.wipe V hv
            rw [wipe_sub hrV, ww] at this
            exact this
theorem in_to {sc : SC} {K : Fg} {fx : Fx} {L : List Addr} {D0 : Addr} {tl : Cq.TLf} {leaf : D → Env → Option (D × Env)} (lf : LeafTo sc K fx L D0 leaf tl) :
    ∀ (cs : List Cl), (∀ i ∈ Cl.vl cs, i ∉ sc.ow) → (∀ c ∈ cs, ∀ i ∈ c.g.slots, i ∈ c.vs) → ∀ (σ : St) (H G : Hp) (env : Env) (d : D) (ho : HO) (d' : D) (e' : Env) (Nx : Hp → Prop), Rel sc K (fx.with D0 ho) L G H σ env → ORep K G d ho → innE leaf cs d env = some (d', e') →
      (∀ H' G' ho', Rel sc K (fx.with D0 ho') L G' H' (L2.wipe σ (Cl.vl cs)) e' → Same G G' → ORep K G' d' ho' → Nx H') → Cq.tIn tl (cs.map (clS sc K)) σ H Nx
  | [], _, _, σ, H, G, env, d, ho, d', e', Nx, R, ro, hE, fin => lf σ H G env d ho d' e' Nx R ro hE fin
  | c :: r, hv, hs, σ, H, G, env, d, ho, d', e', Nx, R, ro, hE, fin => by
    have ih := in_to lf r (fun i hi => hv i (List.mem_append_right _ hi)) (fun c' hc' => hs c' (List.mem_cons_of_mem _ hc'))
    unfold innE at hE
    show (clS sc K c).wi σ H _
    refine ⟨_, L, G, env, R, ?_⟩
    cases ec : c.c.ev env with
    | bad => rw [ec] at hE; cases hE
    | exc _ _ _ => rw [ec] at hE; cases hE
    | ok ds e0 =>
      simp only [ec] at hE
      intro J H1 G1 R1 s1 wk
      have := cl_turns (σ0 := σ) hv (hs c List.mem_cons_self) ih (R1.wipe _ hv) wk (ORep.mono (Le.of_same s1) ro) wipeE_no hE fun H' G' ho' R' s' ro' _ => fin H' G' ho' R' (s1.trans s') ro'
      show ∃ W : Nat → Nat → Hp → Prop, _
      rw [show Cq.vsOf (clS sc K c :: r.map (clS sc K)) = Cl.vl (c :: r) from vsOf_clS sc K (c :: r)]
      exact this
/-! the list of what is found -/
def lstLeaf (e : CE) (d : D) (env : Env) : Option (D × Env) := match d with
  | .lst acc => (match e.ev env with
    | .ok y e3 => if acc.length < sizeLine then some (.lst (acc ++ [y]), e3) else none
    | _ => none)
  | _ => none
def tLst (te : TE) (D0 : Addr) : Cq.TLf := fun σ H Nx => te σ H fun y H7 => ∃ acc, H7 D0 = some (.lst acc) ∧ acc.length < sizeLine ∧ Nx (L2.upd H7 D0 (.lst (acc ++ [y])))
theorem leaf_lst {sc : SC} {K : Fg} {fx : Fx} {L : List Addr} {D0 : Addr} {e : CE} (hF : fx.F D0 = none) (hL : D0 ∉ L) (hB : fx.B D0 = none) : LeafTo sc K fx L D0 (lstLeaf e) (tLst (tE sc K none e.ev fun _ _ _ _ => False) D0) := by
  intro σ H G env d ho d' e' Nx R ro hE fin
  unfold lstLeaf at hE
  split at hE
  · rename_i acc
    obtain ⟨accV, rfl, ra⟩ := ro
    refine ⟨_, L, G, env, R, ?_⟩
    cases ee : e.ev env with
    | bad => rw [ee] at hE; cases hE
    | exc _ _ _ => rw [ee] at hE; cases hE
    | ok z e6 =>
      rw [ee] at hE
      by_cases hz : acc.length < sizeLine
      · simp only [if_pos hz] at hE
        cases hE
        intro zv H6 G6 R6 s6 rz
        obtain ⟨Ru, hH, gD, nD⟩ := R6.unguard hF hL hB (by rintro ⟨_, z⟩; cases z)
        have ra6 := Reps.mono (Le.of_same s6) _ _ ra
        refine ⟨accV, hH, by rw [← ra6.length]; exact hz, fin _ G6 (.lst (accV ++ [zv])) ?_ s6 ⟨_, rfl, ra6.append ⟨zv, [], rfl, rz, rfl⟩⟩⟩
        have Rc := Ru.chg (H' := L2.upd H6 D0 (.lst (accV ++ [zv]))) [D0] (fun b u eb nb _ => by rw [upd_ne fun q => nb (by simp [q])]; exact eb) (tabs_keep Ru.tab.tabs fun b u eb np => by
          have : b ≠ D0 := fun q => np (by rw [q, hH] at eb; cases eb; exact ⟨(fun _ e => by cases e), (fun _ e => by cases e)⟩)
          rw [upd_ne this]; exact eb) (fun b eb => by
          by_cases q : b = D0
          · rw [q, upd_same] at eb; cases eb
          · rw [upd_ne q] at eb; exact eb) (Same.refl _) (fun b u eb => .inl eb) (fun b hb => by
          have : b = D0 := by simpa using hb
          subst this
          exact ⟨gD, hF, hL, by rw [upd_same]; simp⟩) Ru.tab.g rfl fun j dj ej => .inl ⟨ej, fun hj b sb hb => by
            have : b = D0 := by simpa using hb
            subst this
            exact nD j dj hj ej sb⟩
        exact Rc.guard upd_same gD hF hL nD
      · simp only [if_neg hz] at hE; cases hE
  · cases hE
/-! the whole comprehension -/
structure Cn where
  c : Cl
  cs : List Cl
def Cn.vs (l : Cn) : List Nat := Cl.vl (l.c :: l.cs)
def Cn.ev (l : Cn) (d0 : D) (leaf : D → Env → Option (D × Env)) (env : Env) : ER := (l.c.c.ev env).bind fun ds e0 => match clE l.c.g.asg (tsE l.c.t) l.vs (innE leaf l.cs) ds d0 (wipeE e0 l.vs) with
  | some (d, e1) => .ok d (backE e0 e1 l.vs)
  | none => .bad
def chkCl (sc : SC) (c : Cl) (g : Comprehension) : Bool := (g.is_async == 0) && (notSet g.iter && (c.c.chk sc g.iter && (c.g.chk sc g.target && chkTs c.t sc g.ifs)))
def chkCls (sc : SC) : List Cl → List Comprehension → Bool
  | [], [] => true
  | c :: cs, g :: gs => chkCl sc c g && chkCls sc cs gs
  | _, _ => false
def Cn.chk (l : Cn) (sc : SC) (gens : List Comprehension) (scope : Scope) : Bool := match gens with
  | g :: gs => sc.calm && ((l.vs.all fun i => !sc.ow.contains i) && (((l.c :: l.cs).all fun c => c.g.slots.all fun i => c.vs.contains i) && (blkB sc.N sc.kd scope (ownOf sc.N l.vs) &&
      ((g.is_async == 0) && (notSet g.iter && (l.c.c.chk sc g.iter && (l.c.g.chk (inner sc scope) g.target && (chkTs l.c.t (inner sc scope) g.ifs && chkCls (inner sc scope) l.cs gs))))))))
  | [] => false
def reqCl (c : Cl) (r : Rq) : Prop := c.c.req r ∧ reqTs c.t r
def reqCls : List Cl → Rq → Prop
  | [], _ => True
  | c :: cs, r => reqCl c r ∧ reqCls cs r
def Cn.req (l : Cn) (r : Rq) : Prop := reqCls (l.c :: l.cs) r
theorem notSet_all {iter : Expr} (h : notSet iter = true) : ∀ (env : PySem.Env) x, foldedSetIterable iter env x = pure x := fun env => notSet_ok h
theorem pcls_ok {sc : SC} {X : Cx} (k : XOk sc X) : ∀ {cs : List Cl} {gs : List Comprehension}, chkCls sc cs gs = true → reqCls cs (rq X) → Takes X (fun _ _ _ _ => False) → Cq.PCls X gs (cs.map (clS sc X.K))
  | [], [], _, _, _ => .nil
  | c :: cs, g :: gs, hc, q, tk => by
    obtain ⟨h1, h2⟩ := and3 hc
    unfold chkCl at h1
    obtain ⟨a1, h⟩ := and3 h1
    obtain ⟨a2, h⟩ := and3 h
    obtain ⟨a3, h⟩ := and3 h
    obtain ⟨a4, a5⟩ := and3 h
    exact .cons ⟨⟨c.g.sound _ _ _ a4 k, ts_ok a5 k q.1.2 tk, by simpa using a1, notSet_all a2⟩, c.c.sound _ _ _ _ _ a3 k q.1.1 tk⟩ (pcls_ok k h2 q.2 tk)
  | [], _ :: _, hc, _, _ => by cases hc
  | _ :: _, [], hc, _, _ => by cases hc
theorem Cn.to {l : Cn} {sc : SC} {K : Fg} {scope : Scope} {W : WX} {a : Cq.Acc} {d0 : D} {leaf : D → Env → Option (D × Env)} {tl : Addr → Cq.TLf} (hv : ∀ i ∈ l.vs, i ∉ sc.ow) (hs : ∀ c ∈ l.c :: l.cs, ∀ i ∈ c.g.slots, i ∈ c.vs) (r0 : ∀ G, ORep K G d0 a.ho) (hnt : ∀ ps, a.ho ≠ .tbl ps)
    (lf : ∀ fx L D0, fx.F D0 = none → D0 ∉ L → fx.B D0 = none → LeafTo (inner sc scope) K fx L D0 leaf (tl D0)) (hnl : ∀ (d : D) (ho : HO) G, ORep K G d ho → ∀ ps, ho ≠ .tbl ps) (σ : St) (H : Hp) (Q : VK) (h : tF sc K (l.ev d0 leaf) W σ H Q) :
    Cq.tLcN a ⟨tI sc K l.c.c.ev W, tG (inner sc scope) K l.c.g.slots l.c.g.asg, tT (inner sc scope) K (tsE l.c.t) (fun _ _ _ _ => False), l.c.vs⟩ (l.cs.map (clS (inner sc scope) K)) tl ((ownOf sc.N l.vs).map (·.2)) σ H Q := by
  rw [ownOf_slots]
  obtain ⟨fx, L, G, env, R, h⟩ := h
  refine ⟨fx, L, G, env, R, AR.post_mono (AR.post_bind h) (fun ds e0 _ h J H1 G1 R1 s1 wk D0 hD => ?_) fun _ _ _ h => h⟩
  have eV : Cq.vsOf ((⟨tI sc K l.c.c.ev W, tG (inner sc scope) K l.c.g.slots l.c.g.asg, tT (inner sc scope) K (tsE l.c.t) (fun _ _ _ _ => False), l.c.vs⟩ : Cq.ClS) :: l.cs.map (clS (inner sc scope) K)) = l.vs := vsOf_clS (inner sc scope) K (l.c :: l.cs)
  rw [eV, wipe_idem]
  have hF : fx.F D0 = none := by
    cases z : fx.F D0 with
    | none => rfl
    | some u => exact absurd hD (R1.frm D0 u z).some
  have hL : D0 ∉ L := fun z => (R1.lk D0 z).1 hD
  have hB := R1.dom D0 hD
  have Rw := R1.wipe l.vs hv
  obtain ⟨R2, fr⟩ := Rw.fresh (o := a.ho) (d := d0) hD (r0 G1)
  obtain ⟨_, o, e1, _, _, ga, _, _, _, na⟩ := fr
  cases e1
  have R3 := R2.guard upd_same ga hF hL na hnt
  cases el : clE l.c.g.asg (tsE l.c.t) l.vs (innE leaf l.cs) ds d0 (wipeE e0 l.vs) with
  | none => rw [el] at h; exact h.elim
  | some q =>
    obtain ⟨d, eF⟩ := q
    rw [el] at h
    refine cl_turns (sc := inner sc scope) (σ0 := σ) hv (hs l.c List.mem_cons_self) (in_to (lf fx L D0 hF hL hB) l.cs (fun i hi => hv i (List.mem_append_right _ hi)) fun c' hc' => hs c' (List.mem_cons_of_mem _ hc')) (Rel.of_sc (sc := sc) (sc' := inner sc scope) rfl rfl R3) wk (r0 G1) wipeE_no el fun H' G' ho' R' s' ro' hno => ?_
    obtain ⟨Ru, hH, gD, nD⟩ := (Rel.of_sc (sc := inner sc scope) (sc' := sc) rfl rfl R').unguard hF hL hB ro'.ntp
    refine h _ H' G' (R1.back Ru s' hv hno) (s1.trans s') ⟨D0, ho', rfl, hH, ro', gD, hF, hL, hB, fun j d' hj ej sj => ?_⟩
    rcases backE_get ej with ⟨h1, _⟩ | ⟨h1, h2⟩ | ⟨h1, _⟩
    · exact hv j h1 hj
    · exact nD j d' hj h2 ((L2.wipe_out (vs := l.vs) h1).trans sj)
    · exact hv j h1 hj
/-- the parts of the rule -/
theorem Cn.parts {l : Cn} {sc : SC} {X : Cx} {c : Comprehension} {cs : List Comprehension} {scope : Scope} {W : WX} (hc : l.chk sc (c :: cs) scope = true) (k : XOk sc X) (q : l.req (rq X)) (tk : Takes X W) :
    X.calm = true ∧ PI X c.target c.iter (tI sc X.K l.c.c.ev W) ∧ BlkOk X.N X.env.scope scope (ownOf sc.N l.vs) ∧ c.is_async = 0 ∧ (∀ (env : PySem.Env) x, foldedSetIterable c.iter env x = pure x) ∧
    (∀ (s : Shared) (H : Hp) (Cl : Addr) (cl : List (Str × Addr)) (fp : List Addr), PG (X.blk s H scope (compEnvC scope cl Cl X.env) fp) c.target (tG (inner sc scope) X.K l.c.g.slots l.c.g.asg) ∧
      PTs (X.blk s H scope (compEnvC scope cl Cl X.env) fp) c.ifs (tT (inner sc scope) X.K (tsE l.c.t) fun _ _ _ _ => False) ∧ Cq.PCls (X.blk s H scope (compEnvC scope cl Cl X.env) fp) cs (l.cs.map (clS (inner sc scope) X.K))) ∧
    (∀ (s : Shared) (H : Hp) (Cl : Addr) (cl : List (Str × Addr)) (fp : List Addr), XOk (inner sc scope) (X.blk s H scope (compEnvC scope cl Cl X.env) fp)) ∧
    (∀ i ∈ l.vs, i ∉ sc.ow) ∧ (∀ c ∈ l.c :: l.cs, ∀ i ∈ c.g.slots, i ∈ c.vs) := by
  unfold Cn.chk at hc
  dsimp only at hc
  obtain ⟨h1, h⟩ := and3 hc
  obtain ⟨h2, h⟩ := and3 h
  obtain ⟨h3, h⟩ := and3 h
  obtain ⟨h4, h⟩ := and3 h
  obtain ⟨h5, h⟩ := and3 h
  obtain ⟨h6, h⟩ := and3 h
  obtain ⟨h7, h⟩ := and3 h
  obtain ⟨h8, h⟩ := and3 h
  obtain ⟨h9, h10⟩ := and3 h
  have bk := blkB_ok k h4
  have xk := fun s H Cl cl fp => inner_ok k bk.kind s H Cl cl fp
  refine ⟨k.calm.trans h1, l.c.c.sound sc X _ _ W h7 k q.1.1 tk, bk, by simpa using h5, notSet_all h6, fun s H Cl cl fp => ⟨l.c.g.sound _ _ _ h8 (xk s H Cl cl fp), ts_ok h9 (xk s H Cl cl fp) q.1.2 takes0, pcls_ok (xk s H Cl cl fp) h10 q.2 takes0⟩, xk, fun i hi => ?_, fun c hc i hi => ?_⟩
  · simpa using List.all_eq_true.mp h2 i hi
  · simpa using List.all_eq_true.mp (List.all_eq_true.mp h3 c hc) i hi
theorem orep_tbl {K : Fg} (d : D) (ho : HO) (G : Hp) (h : ORep K G d ho) : ∀ ps, ho ≠ .tbl ps := by
  intro ps e
  subst e
  cases d with
  | ins c fs => obtain ⟨_, _, e, _⟩ := h; cases e
  | lst l => obtain ⟨_, e, _⟩ := h; cases e
  | dK l => obtain ⟨_, e, _⟩ := h; cases e
  | dT l => obtain ⟨_, e, _⟩ := h; cases e
  | _ => exact h.elim
theorem acc_lst : Cq.AccOk Cq.aLst := ⟨fun h => wpAny_newObj_type h (by show 0 ≤ sizeLine; decide), fun {X pins σ H s} I => ⟨Nat.zero_le _, [], 0, .nil, Heap.get?_push_size _ rfl⟩⟩
/-- the leaf of a list -/
theorem lf_lst {X : Cx} {elt : Expr} {te : TE} {D0 : Addr} (hx : ∀ e s, X.xe e s → False) (he : PE X elt te) : Cq.Lf X (do let _ ← call (.builtin "list.append") [.ref D0, ← eval elt X.env]) (tLst te D0) := by
  intro pins s σ H Nx I h
  refine wpAny_bind (wpAny_mono (he.run pins s σ H _ I h) (fun z s1 hz => ?_) fun e s z => hx e s z)
  obtain ⟨y, H1, I1, ry, acc, hD, hl, nx⟩ := hz
  refine wpAny_bind ?_
  exact app_ok I1 hD hl ry fun s2 I2 => wpAny_pure ⟨_, I2, nx⟩
def CF.lcn (l : Cn) (e : CE) : CF where
  chk sc x := match x with | .ListComp elt gens scope _ => l.chk sc gens scope && (e.bor.isNone && e.chk (inner sc scope) elt) | _ => false
  req r := l.req r ∧ e.req r
  pur := false
  ev := l.ev (.lst []) (lstLeaf e)
  pok h := by cases h
  sound sc X x W hc k q tk := by
    split at hc
    · rename_i elt gens scope pos
      obtain ⟨h1, h⟩ := and3 hc
      obtain ⟨h2, h3⟩ := and3 h
      have hb : e.bor = none := by simpa using h2
      cases gens with
      | nil => cases h1
      | cons c cs =>
        obtain ⟨c1, c2, c3, c4⟩ := c
        obtain ⟨p1, p2, p3, p4, p5, p6, p7, p8, p9⟩ := l.parts h1 k q.1 tk
        have pe : ∀ (s : Shared) (H : Hp) (Cl : Addr) (cl : List (Str × Addr)) (fp : List Addr), PE (X.blk s H scope (compEnvC scope cl Cl X.env) fp) elt (tE (inner sc scope) X.K none e.ev fun _ _ _ _ => False) := fun s H Cl cl fp => by
          have := e.sound _ _ _ (fun _ _ _ _ => False) h3 (p7 s H Cl cl fp) q.2 takes0
          rw [hb] at this
          exact this
        refine ⟨fun pins s σ H Q I h => ?_⟩
        have h' := Cn.to (l := l) (sc := sc) (K := X.K) (W := W) (d0 := .lst []) (leaf := lstLeaf e) (scope := scope) (a := Cq.aLst) (tl := fun D0 => tLst (tE (inner sc scope) X.K none e.ev fun _ _ _ _ => False) D0) p8 p9 (fun G => ⟨[], rfl, rfl⟩) (fun ps z => by cases z) (fun fx L D0 hF hL hB => leaf_lst hF hL hB) orep_tbl σ H Q h
        have hfa : firstAsync (⟨c1, c2, c3, c4⟩ :: cs) = false := by
          have p4 : c4 = 0 := p4
          rw [p4]; rfl
        rw [eval_ListComp, hfa]
        refine Cq.lcN_core (a := Cq.aLst) (use := none) (Cq.cmp_list elt (⟨c1, c2, c3, c4⟩ :: cs) scope pos) acc_lst p1 k.nd I p2 p3 p4 p5 p6 (fun s H Cl cl fp D0 => lf_lst (X := X.blk s H scope (compEnvC scope cl Cl X.env) fp) (fun _ _ z => z) (pe s H Cl cl fp)) h' fun D C s' m H' I' q hn f => ⟨m, hn, fun h'' sb => ?_⟩
        obtain ⟨f0, f1, f2, f3, f4, f5⟩ := f
        exact ⟨.ref D, H', I'.turned (t' := s'.toks) (fun b o hb e => (sb.2 b hb).trans e) f0 f1 f3 f4 f5, rfl, q⟩
    · cases hc
/-- name = [..] on one line -/
def CS.setLcn (i : Nat) (fz : Bool) (l : Cn) (e : CE) : CS where
  chk sc x := match x with | .Assign [.Name y py] (.ListComp elt gens scope pos) _ => chkSw sc y py pos scope && (chkLoc sc i y && ((if fz then !sc.ow.contains i else sc.ow.contains i && !sc.rp.contains i) && (l.chk sc gens scope && (e.bor.isNone && e.chk (inner sc scope) elt)))) | _ => false
  req r := l.req r ∧ e.req r
  ev env := (l.ev (.lst []) (lstLeaf e) env).bindS fun d e => .nx (e.set i (some d))
  sound sc X x W hc k q tk _ := by
    split at hc
    · rename_i y py elt gens scope pos spos
      obtain ⟨h0, h⟩ := and3 hc
      obtain ⟨hL, h⟩ := and3 h
      obtain ⟨hO, h⟩ := and3 h
      obtain ⟨h1, h⟩ := and3 h
      obtain ⟨h2, h3⟩ := and3 h
      obtain ⟨s1, sX⟩ := and3 h0
      obtain ⟨s2, s3⟩ := and3 sX
      obtain ⟨g1, g2, g3⟩ := chkLoc_ok hL k
      have hyl : X.env.scope.names.lookup y = some .local := by rw [k.kd y]; exact of_decide_eq_true s1
      have hb : e.bor = none := by simpa using h2
      cases gens with
      | nil => cases h1
      | cons c cs =>
        obtain ⟨c1, c2, c3, c4⟩ := c
        obtain ⟨p1, p2, p3, p4, p5, p6, p7, p8, p9⟩ := l.parts h1 k q.1 tk
        have pe : ∀ (s : Shared) (H : Hp) (Cl : Addr) (cl : List (Str × Addr)) (fp : List Addr), PE (X.blk s H scope (compEnvC scope cl Cl X.env) fp) elt (tE (inner sc scope) X.K none e.ev fun _ _ _ _ => False) := fun s H Cl cl fp => by
          have := e.sound _ _ _ (fun _ _ _ _ => False) h3 (p7 s H Cl cl fp) q.2 takes0
          rw [hb] at this
          exact this
        have hsw : swapsWith (.ListComp elt (⟨c1, c2, c3, c4⟩ :: cs) scope pos) (some (.Name y py)) spos.line X.env = pure true := sw_true k.fk hyl s2 (by simpa using s3)
        refine ⟨fun pins s σ H D I h => ?_⟩
        have hz : tF sc X.K (l.ev (.lst []) (lstLeaf e)) W σ H (fun x H1 => gName i x σ H1 D.nx) := by
          obtain ⟨fx, L, G, env, R, h⟩ := h
          refine ⟨fx, L, G, env, R, ER.post_mono (ER.post_bindS h) (fun d e1 _ hz v H1 G1 R1 s1 fr => ?_) (XWs.at σ)⟩
          cases fz with
          | false =>
            obtain ⟨o1, o2⟩ := and3 hO
            exact hz _ H1 G1 (R1.setF (by simpa using o1) (by simpa using o2) fr) s1
          | true =>
            obtain ⟨G2, R2, s2, r2⟩ := R1.freeze fr
            exact hz _ H1 G2 (R2.set (by simpa using hO) r2) (s1.trans s2)
        have h' := Cn.to (l := l) (sc := sc) (K := X.K) (W := W) (d0 := .lst []) (leaf := lstLeaf e) (scope := scope) (a := Cq.aLst) (tl := fun D0 => tLst (tE (inner sc scope) X.K none e.ev fun _ _ _ _ => False) D0) p8 p9 (fun G => ⟨[], rfl, rfl⟩) (fun ps z => by cases z) (fun fx L D0 hF hL hB => leaf_lst hF hL hB) orep_tbl σ H _ hz
        have hfa : firstAsync (⟨c1, c2, c3, c4⟩ :: cs) = false := by
          have p4 : c4 = 0 := p4
          rw [p4]; rfl
        rw [exec_Assign_Name_used _ _ _ _ hsw]
        refine wpAny_bind (wpAny_standAt (wpAny_bind ?_))
        show wpAny _ X.A (do let _ ← comprehension (.ListComp elt (⟨c1, c2, c3, c4⟩ :: cs) scope pos) scope X.env (firstIterPos (⟨c1, c2, c3, c4⟩ :: cs) pos) (newList []) (firstAsync (⟨c1, c2, c3, c4⟩ :: cs)) (eval c2 X.env) (some (assign (.Name y py) X.env))) _ _ s
        rw [hfa]
        refine wpAny_bind (thn (Cq.lcN_core (a := Cq.aLst) (Qf := fun _ s' => SP X pins D .next s') (Cq.cmp_list elt (⟨c1, c2, c3, c4⟩ :: cs) scope pos) acc_lst p1 k.nd I p2 p3 p4 p5 p6 (fun s H Cl cl fp D0 => lf_lst (X := X.blk s H scope (compEnvC scope cl Cl X.env) fp) (fun _ _ z => z) (pe s H Cl cl fp)) h' fun L C s' m H' I' q hn f => ?_) fun _ s' hq => wpAny_pure (wpAny_pure hq))
        show wpAny _ _ (assign (.Name y py) X.env (.ref L)) _ _ _
        refine wpAny_assign_Name (store_ok2 (v := V.ref L) I' k.nd g1 (.inl hyl) rfl (fun s2 I2 ⟨a, sb, ha⟩ => ?_) (.inr hyl))
        obtain ⟨f0, f1, f2, f3, f4, f5⟩ := f
        have haC : C ≠ a := by
          rcases ha with z | z
          · rw [z]; exact f1
          · exact fun e => f4 y a z e.symm
        refine ⟨m, hn.sameBut sb haC, fun h3 sb3 => ?_⟩
        exact ⟨_, H', I2.turned (t' := s2.toks) (fun b o hb e => (sb3.2 b hb).trans e) f0 f1 f3 f4 f5, q⟩
    · cases hc
end C

set_option maxRecDepth 100000
set_option maxHeartbeats 4000000
namespace C
open PySem L2
/-! ### methods that change a list that a name owns -/
def rMo (K : Fg) (f : D → List D → Option (D × D)) : V → List V → Hp → VK → Prop := fun x xs H Q => ∃ G a o d ds r d', x = .ref a ∧ H a = some o ∧ ORep K G d o ∧ Reps K G ds xs ∧ f d ds = some (r, d') ∧ ∀ v o', ORep K G d' o' → Rep K G r v → Q v (L2.upd H a o')
structure Mo where
  name : Str
  id : String
  f : D → List D → Option (D × D)
  isl : ∀ d ds r, f d ds = some r → ∃ l, d = .lst l
  slot : Slot "list" name id
  hty : typeOf (.builtin id) = pure (.type "method_descriptor")
  ok : ∀ X : Cx, MtR X id (rMo X.K f)
theorem tyV_lst {K : Fg} {H : Hp} {a : Addr} {xs : List V} (h : H a = some (.lst xs)) : tyV K "list" (.ref a) H := Or.inl ⟨rfl, xs, SqL.of h⟩
def evMo (b : Mo) (i : Nat) (r : CA) (env : Env) : ER := match env[i]? with
  | some (some (.lst _)) => (r.ev env).bind fun ds e => (match e[i]? with
    | some (some d) => (match b.f d ds with
      | some (res, d') => .ok res (e.set i (some d'))
      | none => .bad)
    | _ => .bad)
  | _ => .bad
def CE.mo (b : Mo) (i : Nat) (r : CA) : CE where
  chk sc e := match e with
    | .Call (.Attribute (.Name x p) g ap) (y :: ys) [] cp => decide (g = b.name) && ((ap.endLine == cp.line) && (decide ((y :: ys).length < 30) && (chkVar sc i x && (sc.ow.contains i && ((y :: ys).all notStar && r.chk sc (y :: ys))))))
    | _ => false
  req z := r.req z
  bor := none
  pur := false
  ev := evMo b i r
  pok h := by cases h
  bok i h := by cases h
  sound sc X e W hc k q tk := by
    split at hc
    · rename_i x p g ap y ys cp
      obtain ⟨h1, h⟩ := and3 hc
      obtain ⟨h2, h⟩ := and3 h
      obtain ⟨h3, h⟩ := and3 h
      obtain ⟨h4, h⟩ := and3 h
      obtain ⟨h5, h⟩ := and3 h
      obtain ⟨h6, h7⟩ := and3 h
      have eg := of_decide_eq_true h1
      subst eg
      have ho : i ∈ sc.ow := by simpa using h5
      have hns := h6
      have ns := h6
      rw [List.all_cons] at ns
      have hfew : ((backTo cp (starEach (y :: ys) X.env)).all (fun x => !x.1) && (backToKw cp (keywordEach [] X.env)).all (fun x => x.1.isSome) && decide ((y :: ys).length + ([] : List Keyword).length + (if ([] : List Keyword).isEmpty then 0 else 1) < 30)) = true := by
        have a1 : (backTo cp (starEach (y :: ys) X.env)).all (fun x => !x.1) = true := by
          have := nostar_any (env := X.env) (pos := cp) hns
          rw [List.all_eq_not_any_not]
          simpa using this
        have a2 : (backToKw cp (keywordEach [] X.env)).all (fun x => x.1.isSome) = true := rfl
        rw [a1, a2]
        simpa using h3
      refine (pe_bm PySem.F.plainAttrs_list b.slot b.hty (b.ok X) (chkVar_ok h4 k) (r.sound sc X _ W h7 k q tk) (by rfl) hfew h2 (notStar_ok (and3 ns).1) (nostar_any (and3 ns).2)).imp fun σ H Q h => ?_
      obtain ⟨fx, L, G, env, R, h⟩ := h
      unfold evMo at h
      split at h
      · rename_i l0 e0
        obtain ⟨a, o, m1, m2, m3, _⟩ := R.own i _ ho e0
        obtain ⟨xs, rfl, _⟩ := id m3
        refine ⟨_, m1, tyV_lst m2, fx, L, G, env, R, AR.post_mono (AR.post_bind h) (fun ds e1 _ h vs H1 G1 R1 s1 rr => ?_) fun _ _ _ h => h⟩
        split at h
        · rename_i d ed
          split at h
          · rename_i res d' ef
            obtain ⟨a', o', n1, n2, n3, _⟩ := R1.own i d ho ed
            rw [m1] at n1
            cases n1
            exact ⟨G1, a, o', d, ds, res, d', rfl, n2, n3, rr, ef, fun v o2 r1 r2 => h v _ G1 (R1.upd ho ed m1 r1) s1 r2⟩
          · exact h.elim
        · exact h.elim
      · exact h.elim
    · cases hc
def evMo0 (b : Mo) (i : Nat) (env : Env) : ER := match env[i]? with
  | some (some d) => (match b.f d [] with
      | some (res, d') => .ok res (env.set i (some d'))
      | none => .bad)
  | _ => .bad
def CE.mo0 (b : Mo) (i : Nat) : CE where
  chk sc e := match e with
    | .Call (.Attribute (.Name x p) g ap) [] [] cp => decide (g = b.name) && ((ap.endLine == cp.line) && (chkVar sc i x && sc.ow.contains i))
    | _ => false
  req z := True
  bor := none
  pur := false
  ev := evMo0 b i
  pok h := by cases h
  bok i h := by cases h
  sound sc X e W hc k q tk := by
    split at hc
    · rename_i x p g ap cp
      obtain ⟨h1, h⟩ := and3 hc
      obtain ⟨h2, h⟩ := and3 h
      obtain ⟨h4, h5⟩ := and3 h
      have eg := of_decide_eq_true h1
      subst eg
      have ho : i ∈ sc.ow := by simpa using h5
      refine (pe_bm0 PySem.F.plainAttrs_list b.slot b.hty (b.ok X) (chkVar_ok h4 k) (by rfl) h2).imp fun σ H Q h => ?_
      obtain ⟨fx, L, G, env, R, h⟩ := h
      unfold evMo0 at h
      split at h
      · rename_i d e0
        split at h
        · rename_i res d' ef
          obtain ⟨l, rfl⟩ := b.isl _ _ _ ef
          obtain ⟨a, o, m1, m2, m3, _⟩ := R.own i _ ho e0
          obtain ⟨xs, rfl, rr⟩ := id m3
          refine ⟨_, m1, tyV_lst m2, ?_⟩
          exact ⟨G, a, _, _, [], res, d', rfl, m2, m3, rfl, ef, fun v o2 r1 r2 => h v _ G (R.upd ho e0 m1 r1) (Same.refl _) r2⟩
        · exact h.elim
      · exact h.elim
    · cases hc
def fAppend (d : D) (ds : List D) : Option (D × D) := match d, ds with
  | .lst l, [x] => if l.length < sizeLine then some (.non, .lst (l ++ [x])) else none
  | _, _ => none
def mAppend : Mo where
  name := "append"
  id := "list.append"
  f := fAppend
  isl d ds r h := by
    unfold fAppend at h
    split at h
    · exact ⟨_, rfl⟩
    · cases h
  slot := PySem.F.slot_list_append
  hty := PySem.F.type_list_append
  ok X pins s σ H x xs v us Q I rx rv h := by
    obtain ⟨G, a, o, d, ds, r, d', rfl, h1, h2, h3, ef, q⟩ := h
    unfold fAppend at ef
    split at ef
    · split at ef
      · rename_i l x hz
        cases ef
        obtain ⟨ys, rfl, rr⟩ := h2
        obtain ⟨y, t, rfl, ry, rt⟩ := h3
        cases rt
        refine mt_append pins s σ H _ _ v us Q I rx rv ⟨a, ys, y, rfl, rfl, h1, by rw [← rr.length]; exact hz, q _ _ ⟨_, rfl, rr.append ⟨y, [], rfl, ry, rfl⟩⟩ rfl⟩
      · cases ef
    · cases ef
def fInsert (d : D) (ds : List D) : Option (D × D) := match d, ds with
  | .lst l, [.int i, x] => if decide (l.length < sizeLine) && (decide (0 ≤ i) && decide (i < 2 ^ 63)) then some (.non, .lst (l.take i.toNat ++ [x] ++ l.drop i.toNat)) else none
  | _, _ => none
def mInsert : Mo where
  name := "insert"
  id := "list.insert"
  f := fInsert
  isl d ds r h := by
    unfold fInsert at h
    split at h
    · exact ⟨_, rfl⟩
    · cases h
  slot := PySem.F.slot_list_insert
  hty := PySem.F.type_list_insert
  ok X pins s σ H x xs v us Q I rx rv h := by
    obtain ⟨G, a, o, d, ds, r, d', rfl, h1, h2, h3, ef, q⟩ := h
    unfold fInsert at ef
    split at ef
    · split at ef
      · rename_i l i x hz
        cases ef
        obtain ⟨z1, z⟩ := and3 hz
        obtain ⟨z2, z3⟩ := and3 z
        obtain ⟨ys, rfl, rr⟩ := h2
        obtain ⟨y0, t, rfl, ry0, rt⟩ := h3
        cases ry0
        obtain ⟨y, t, rfl, ry, rt⟩ := rt
        cases rt
        refine mt_insert pins s σ H _ _ v us Q I rx rv ⟨a, ys, i, y, rfl, rfl, h1, by rw [← rr.length]; exact of_decide_eq_true z1, of_decide_eq_true z2, of_decide_eq_true z3, q _ _ ⟨_, rfl, Reps.append' (Reps.append' (rr.take i.toNat) (show Reps X.K G [x] [y] from ⟨y, [], rfl, ry, rfl⟩)) (rr.drop i.toNat)⟩ rfl⟩
      · cases ef
    · cases ef
def fClear (d : D) (ds : List D) : Option (D × D) := match d, ds with
  | .lst l, [] => some (.non, .lst [])
  | _, _ => none
def mClear : Mo where
  name := "clear"
  id := "list.clear"
  f := fClear
  isl d ds r h := by
    unfold fClear at h
    split at h
    · exact ⟨_, rfl⟩
    · cases h
  slot := PySem.F.slot_list_clear
  hty := PySem.F.type_list_clear
  ok X pins s σ H x xs v us Q I rx rv h := by
    obtain ⟨G, a, o, d, ds, r, d', rfl, h1, h2, h3, ef, q⟩ := h
    unfold fClear at ef
    split at ef
    · cases ef
      obtain ⟨ys, rfl, rr⟩ := h2
      cases h3
      exact mt_clear pins s σ H _ _ v us Q I rx rv ⟨a, ys, rfl, rfl, h1, q _ _ ⟨[], rfl, rfl⟩ rfl⟩
    · cases ef
theorem Reps.last {K : Fg} {G : Hp} {l : List D} {xs : List V} (h : Reps K G l xs) {d : D} (e : l.getLast? = some d) : ∃ y, xs[xs.length - 1]? = some y ∧ Rep K G d y := by
  rw [List.getLast?_eq_getElem?] at e
  obtain ⟨v, e1, e2⟩ := h.at e
  exact ⟨v, by rw [← h.length]; exact e1, e2⟩
theorem Reps.dropLast {K : Fg} {G : Hp} {l : List D} {xs : List V} (h : Reps K G l xs) : Reps K G l.dropLast xs.dropLast := by
  rw [List.dropLast_eq_take, List.dropLast_eq_take, h.length]
  exact Reps.take _ h
def fPop (d : D) (ds : List D) : Option (D × D) := match d, ds with
  | .lst l, [] => (match l.getLast? with | some x => some (x, .lst l.dropLast) | none => none)
  | _, _ => none
def mPop : Mo where
  name := "pop"
  id := "list.pop"
  f := fPop
  isl d ds r h := by
    unfold fPop at h
    split at h
    · exact ⟨_, rfl⟩
    · cases h
  slot := PySem.F.slot_list_pop
  hty := PySem.F.type_list_pop
  ok X pins s σ H x xs v us Q I rx rv h := by
    obtain ⟨G, a, o, d, ds, r, d', rfl, h1, h2, h3, ef, q⟩ := h
    unfold fPop at ef
    split at ef
    · split at ef
      · rename_i l x hx
        cases ef
        obtain ⟨ys, rfl, rr⟩ := h2
        cases h3
        obtain ⟨y, ey, ry⟩ := rr.last hx
        exact mt_pop pins s σ H _ _ v us Q I rx rv ⟨a, ys, y, rfl, rfl, h1, ey, q _ _ ⟨_, rfl, rr.dropLast⟩ ry⟩
      · cases ef
    · cases ef
end C

set_option maxRecDepth 100000
set_option maxHeartbeats 4000000
namespace Cq
open PySem PySem.SeqAt
open AutoSeq1 (wpAny_loadPart')
open MeetsSeq MeetsSeq2 MeetsSeq3 SeqRoads2
variable {prog : Program} {w : World} {A : Around} {R : Result → Shared → Prop}
theorem tuple_eqB (l b : Addr) (items items2 : Array Value) (n n2 : Nat) (dd dd2 : Option Addr) (sl sl2 : Array (Option Value)) (e : Nat → Bool) (I : Nat → Shared → Prop) (F : Shared → Prop)
    (turn : ∀ i (h1 : i < items.size) (h2 : i < items2.size) s, I i s → wpAny (model prog w) A.in1 (eqBool items[i] items2[i]) (fun r s' => r = e i ∧ if e i then I (i + 1) s' else F s') (fun e s' => R (.error e) s') s)
    (fin : ∀ s, I (min items.size items2.size) s → R (.ok (.ret (.bool (items.size == items2.size)))) s) (finF : ∀ s, F s → R (.ok (.ret (.bool false))) s) {s : Shared} (hl1 : s.heap.get? l = some { cls := .type "tuple", dict := dd, data := .seq items n, slots := sl }) (hb1 : s.heap.get? b = some { cls := .type "tuple", dict := dd2, data := .seq items2 n2, slots := sl2 }) (h : I 0 s) :
    wpAny (model prog w) A.in1 (Builtin.«tuple.__eq__» ⟨[.ref l, .ref b], []⟩) (GQ.FinOf prog w A R) (fun e s' => R (.error e) s') s := by
  have f2 := AutoSeq1.sub_tuple_tuple
  have hZ : (items.toList.zip items2.toList).length = min items.size items2.size := by simp
  have h0 := h
  obtain ⟨hp, g, d, tk, os⟩ := s
  wp_walk using wpAny_loadPart' hl1, wpAny_loadPart' hb1, wpAny_forIn_list _ (fun rest b s' => (b.1 = none ∧ ∃ i, rest = (items.toList.zip items2.toList).drop i ∧ i ≤ min items.size items2.size ∧ I i s')) _
  case turn =>
    rintro ⟨y, x⟩ rest b s' ⟨hb', i, hz, hi, hI⟩
    have hlt : i < (items.toList.zip items2.toList).length := by
      rcases Nat.lt_or_ge i (items.toList.zip items2.toList).length with h' | h'
      · exact h'
      · rw [List.drop_of_length_le h'] at hz; cases hz
    have h1 : i < items.size := by omega
    have h2 : i < items2.size := by omega
    rw [List.drop_eq_getElem_cons hlt] at hz
    injection hz with hyx hrest
    have hy : y = items[i] := by have := congrArg Prod.fst hyx; simpa using this
    have hx : x = items2[i] := by have := congrArg Prod.snd hyx; simpa using this
    subst hy hx
    refine wpAny_bind (wpAny_mono (turn i h1 h2 s' hI) (fun r s2 q2 => ?_) fun _ _ x => x)
    obtain ⟨hr, q2⟩ := q2
    rw [hr]
    cases he : e i with
    | true =>
      rw [if_pos he] at q2
      wp_walk
      exact ⟨rfl, i + 1, hrest, by omega, q2⟩
    | false =>
      rw [if_neg (by rw [he]; exact Bool.false_ne_true)] at q2
      wp_walk
      exact finF _ q2
  case fin =>
    rintro ⟨b1, b2⟩ s' ⟨hb', i, hz, hi, hI⟩
    simp only at hb'
    subst hb'
    have hge : min items.size items2.size ≤ i := by
      rcases Nat.lt_or_ge i (items.toList.zip items2.toList).length with h' | h'
      · rw [List.drop_eq_getElem_cons h'] at hz; cases hz
      · exact hZ ▸ h'
    have hi' : i = min items.size items2.size := by omega
    have hR := fin s' (hi' ▸ hI)
    wp_walk
    simpa [Builtin.Tuple.tupleCompareSizes] using hR
  case h =>
    exact ⟨rfl, 0, rfl, Nat.zero_le _, h0⟩
theorem rc_tupB {E : Value → Shared → Prop} {s : Shared} {l b : Addr} {items items2 : Array Value} {Q : Value → Shared → Prop} (hu : A.units < cLine) (e : Nat → Bool) (I : Nat → Shared → Prop) (F : Shared → Prop)
    (hl : s.heap.IsTuple l items) (hb : s.heap.IsTuple b items2)
    (turn : ∀ i (h1 : i < items.size) (h2 : i < items2.size) s, I i s → wpAny (model prog w) A.in1 (eqBool items[i] items2[i]) (fun r s' => r = e i ∧ if e i then I (i + 1) s' else F s') E s)
    (fin : ∀ s, I (min items.size items2.size) s → Q (.bool (items.size == items2.size)) s) (finF : ∀ s, F s → Q (.bool false) s) (h : I 0 s) : wpAny (model prog w) A (richCompare .Eq (.ref l) (.ref b)) Q E s := by
  obtain ⟨⟨cls, dd, data, sl⟩, ho, hc, n, hd⟩ := id hl
  obtain ⟨⟨cls2, dd2, data2, sl2⟩, ho2, hc2, n2, hd2⟩ := id hb
  simp only at hc hd hc2 hd2
  subst hc hd hc2 hd2
  refine wpAny_richCompare_same_room (op := .Eq) ⟨_, ho, rfl⟩ ⟨_, ho2, rfl⟩ PySem.F.slot_tuple_eq (GQ.call_here PySem.F.slot_tuple_eq ⟨_, ho, rfl⟩ PySem.F.entry_tuple_eq (PySem.F.args_tuple_eq_2 _ _) ?_) hu
  exact tuple_eqB (R := wants (fun v s' => v ≠ .notImplemented ∧ Q v s') E) l b items items2 n n2 dd dd2 sl sl2 e I F turn (fun s' q => ⟨(fun x => nomatch x), fin s' q⟩) (fun s' q => ⟨(fun x => nomatch x), finF s' q⟩) ho ho2 h
end Cq
namespace C
open PySem L2
/-! ### == of tuples whose items have an own __eq__ -/
def flat0 : D → Bool
  | .non => true
  | .bl _ => true
  | .int _ => true
  | .str _ => true
  | _ => false
def flat1 : D → Bool
  | .tup (x :: l) => (x :: l).all flat0
  | d => flat0 d
def flatI : D → Bool
  | .ins _ fs => fs.all fun p => flat1 p.2
  | _ => false
theorem flat0_inj {K : Fg} {G : Hp} {d d' : D} {v : V} (h : flat0 d = true) (h' : flat0 d' = true) (r : Rep K G d v) (r' : Rep K G d' v) : d = d' := by
  cases d <;> first | (exact Bool.noConfusion h) | skip
  all_goals cases d' <;> first | (exact Bool.noConfusion h') | (have e : _ = _ := (show v = _ from r).symm.trans (show v = _ from r'); cases e; rfl) | (have e : _ = _ := (show v = _ from r).symm.trans (show v = _ from r'); cases e)
theorem flat0s_inj {K : Fg} {G : Hp} : ∀ {l l' : List D} {xs : List V}, l.all flat0 = true → l'.all flat0 = true → Reps K G l xs → Reps K G l' xs → l = l'
  | [], [], xs, _, _, _, _ => rfl
  | [], d :: l, xs, _, _, r, r' => by
    cases r
    obtain ⟨_, _, e, _⟩ := r'
    cases e
  | d :: l, [], xs, _, _, r, r' => by
    cases r'
    obtain ⟨_, _, e, _⟩ := r
    cases e
  | d :: l, d' :: l', xs, h, h', r, r' => by
    obtain ⟨x, t, rfl, a1, a2⟩ := r
    obtain ⟨x', t', e, b1, b2⟩ := r'
    cases e
    rw [List.all_cons] at h h'
    rw [flat0_inj (and3 h).1 (and3 h').1 a1 b1, flat0s_inj (and3 h).2 (and3 h').2 a2 b2]
theorem flat1_inj {K : Fg} {G : Hp} {d d' : D} {v : V} (h : flat1 d = true) (h' : flat1 d' = true) (r : Rep K G d v) (r' : Rep K G d' v) : d = d' := by
  have nt : ∀ {d : D} {l : List D} {x : D}, Rep K G d v → flat0 d = true → Rep K G (.tup (x :: l)) v → False := fun {d l x} r h r' => by
    obtain ⟨a, xs, e, _⟩ := r'
    subst e
    cases d <;> first | (exact Bool.noConfusion h) | cases r
  cases d with
  | tup l =>
    cases l with
    | nil => exact Bool.noConfusion h
    | cons x l =>
      cases d' with
      | tup l' =>
        cases l' with
        | nil => exact Bool.noConfusion h'
        | cons x' l' =>
          obtain ⟨a, xs, e, g1, g2⟩ := r
          obtain ⟨a', xs', e', g1', g2'⟩ := r'
          subst e
          cases e'
          rcases g1 with g1 | ⟨rfl, _⟩
          · rcases g1' with g1' | ⟨rfl, _⟩
            · rw [g1] at g1'
              cases g1'
              rw [flat0s_inj h h' g2 g2']
            · obtain ⟨_, _, e, _⟩ := g2'; cases e
          · obtain ⟨_, _, e, _⟩ := g2; cases e
      | _ => exact (nt r' h' r).elim
  | _ =>
    cases d' with
    | tup l' =>
      cases l' with
      | nil => exact Bool.noConfusion h'
      | cons x' l' => exact (nt r h r').elim
    | _ => exact flat0_inj h h' r r'
theorem flatF_inj {K : Fg} {G : Hp} : ∀ {l l' : List (Str × D)} {xs : List (Str × V)}, (l.all fun p => flat1 p.2) = true → (l'.all fun p => flat1 p.2) = true → RepF K G l xs → RepF K G l' xs → l = l'
  | [], [], xs, _, _, _, _ => rfl
  | [], (_, _) :: l, xs, _, _, r, r' => by
    cases r
    obtain ⟨_, _, e, _⟩ := r'
    cases e
  | (_, _) :: l, [], xs, _, _, r, r' => by
    cases r'
    obtain ⟨_, _, e, _⟩ := r
    cases e
  | (k, d) :: l, (k', d') :: l', xs, h, h', r, r' => by
    obtain ⟨x, t, rfl, a1, a2⟩ := r
    obtain ⟨x', t', e, b1, b2⟩ := r'
    cases e
    rw [List.all_cons] at h h'
    have e1 : d = d' := flat1_inj (and3 h).1 (and3 h').1 a1 b1
    have e2 := flatF_inj (and3 h).2 (and3 h').2 a2 b2
    subst e1
    subst e2
    rfl
theorem flatI_inj {K : Fg} {G : Hp} {c : Str} {d d' : D} {v : V} (h : flatI d = true) (h' : flatI d' = true) (i : isIns c d = true) (i' : isIns c d' = true) (r : Rep K G d v) (r' : Rep K G d' v) : d = d' := by
  cases d with
  | ins c1 fs =>
    cases d' with
    | ins c2 fs' =>
      have e1 : c1 = c := of_decide_eq_true i
      have e2 : c2 = c := of_decide_eq_true i'
      subst e1
      subst e2
      obtain ⟨a, dx, xs, e, g1, g2⟩ := r
      obtain ⟨a', dx', xs', e', g1', g2'⟩ := r'
      subst e
      cases e'
      rw [g1] at g1'
      cases g1'
      rw [flatF_inj h h' g2 g2']
    | _ => exact Bool.noConfusion h'
  | _ => exact Bool.noConfusion h
/-- == of two items -/
def eqP (c : Str) (F : List D → FR) (x y : D) : Option Bool := if isIns c x && (isIns c y && (flatI x && flatI y)) then (match F [x, x] with
    | .ret (.bl true) [] => (match F [x, y] with | .ret (.bl b) [] => some b | _ => none)
    | _ => none) else none
def EqTRq (r : Rq) (c : Str) (F : List D → FR) : Prop := ∃ k f fd ps, FnOk r.prog r.w r.K r.mg r.base (L2.CX r.prog r.w) k f fd ps (lift r.K 2 [] false F) ∧ Room (k + 2) r.A ∧ PySem.W.findIn r.K (.ref (ga r.K c)) "__eq__" = some (some (.ref f)) ∧ PySem.W.isFn r.K (.ref f) = true ∧ Binds r.K fd ps []
theorem eqB_pair {X : Cx} {c : Str} {F : List D → FR} (hu : X.A.units + 100 < cLine) (q : EqTRq (rq X) c F) {pins : List (Addr × Obj)} {σ : St} {G : Hp} (ng : noTb G) {dx dy : D} {x y : V} {u v : Value} {r : Bool} (e : eqP c F dx dy = some r)
    (r1 : Rep X.K G dx x) (r2 : Rep X.K G dy y) (rx : RelV x u) (ry : RelV y v) {H : Hp} {s : Shared} (I : Inv X pins σ H s) (hG : ∀ a o, G a = some o → H a = some o) (tb : LamX.Tabs (lamT X.K) H) {Q : Bool → Shared → Prop}
    (h : ∀ s' H', Inv X pins σ H' s' → Kp X.K H H' → Q r s') : wpAny (model X.prog X.w) X.A.in1 (eqBool u v) Q X.xe s := by
  obtain ⟨kk, f, fd, ps, Fk, hr, hs, hf, hb⟩ := q
  unfold eqP at e
  split at e
  · rename_i hi
    obtain ⟨g1, hi⟩ := and3 hi
    obtain ⟨g2, hi⟩ := and3 hi
    obtain ⟨g3, g4⟩ := and3 hi
    split at e
    · rename_i eS
      split at e
      · rename_i b' eF
        cases e
        have sp : lift X.K 2 [] false F [x, y] H (fun w H' => w = .bl r ∧ Kp X.K H H') (fun _ _ _ => False) := lift_pure (ds := [dx, dy]) rfl hG ⟨x, [y], rfl, r1, y, [], rfl, r2, rfl⟩ eF tb ng fun w H' G' s1 _ _ rv => ⟨rv, s1⟩
        cases dx with
        | ins c1 fs =>
          cases dy with
          | ins c2 fs' =>
            have e1 : c1 = c := of_decide_eq_true g1
            have e2 : c2 = c := of_decide_eq_true g2
            subst e1
            subst e2
            obtain ⟨a, dd, xs, rfl, ha, ra⟩ := id r1
            obtain ⟨a2, dd2, xs2, rfl, ha2, ra2⟩ := id r2
            cases rx
            cases ry
            by_cases hab : a = a2
            · subst hab
              have ed := flatI_inj (c := c2) g3 g4 g1 g2 r1 r2
              rw [← ed, eS] at eF
              cases eF
              unfold eqBool
              refine wpAny_holding ?_
              have fin := h s H I ⟨fun a o e _ => e, tb, fun a e => e⟩
              refine wpAny_ite_split (fun _ => ?_) (fun hn => absurd (by simp) hn)
              first
                | exact wpAny_pure fin
                | exact wpAny_bind (wpAny_rule (wpAny_pure fin))
                | exact wpAny_bind (wpAny_pure (wpAny_pure fin))
            · refine GQ.eqBool_refG hab ?_
              obtain ⟨mA, J, _⟩ := ins_get I.hok (hG _ _ ha)
              obtain ⟨od, J, _⟩ := J.look
              obtain ⟨mB, J', _⟩ := ins_get I.hok (hG _ _ ha2)
              obtain ⟨od', J', _⟩ := J'.look
              obtain ⟨m, hF⟩ := I.fr
              have hu' : X.A.in1.units < cLine := by show X.A.units + 1 < cLine; omega
              refine PySem.W.cmp_K (op := .Eq) hu' hF I.ok.mod.kin J J'.type (by unfold PySem.W.notFirst; simp) hs hf ?_
              have hl : ([Value.ref a, .ref a2] ++ ([] : List Value)).length = ps.length := by
                rw [← Fk.len _ _ _ _ sp]; rfl
              refine wpAny_call (codeAny_mono (Fk.run X.A.in1 X.stack s H ⟨[.ref a, .ref a2], []⟩ [.ref a, .ref a2] [.ref a, .ref a2] _ _ (hr.mono (by omega) : Room (kk + 1) X.A).in1 I.env0.in1 (hb s [.ref a, .ref a2] I.kIn hl) (.cons rfl (.cons rfl .nil)) sp) fun r s' hq' => ?_)
              cases r with
              | error e =>
                obtain ⟨_, _, _, _, _, _, _, _, _, _, _, _, z⟩ := hq'
                exact z.elim
              | ok fl =>
                cases fl with
                | ret u =>
                  obtain ⟨v, H', I3, rv, ev, q3⟩ := I.after hq'
                  subst ev
                  cases rv
                  exact ⟨_, rfl, h s' H' I3 q3⟩
                | next => exact False.elim hq'
                | brk => exact False.elim hq'
                | cont => exact False.elim hq'
          | _ => exact Bool.noConfusion g2
        | _ => exact Bool.noConfusion g1
      · cases e
    · cases e
  · cases e
def eqTs (c : Str) (F : List D → FR) : List D → List D → Option Bool
  | [], [] => some true
  | [], _ :: _ => some false
  | _ :: _, [] => some false
  | x :: l, y :: m => match eqP c F x y with
    | some true => eqTs c F l m
    | some false => some false
    | none => none
def eqT (c : Str) (F : List D → FR) (x y : D) : Option Bool := match x, y with
  | .tup l, .tup m => eqTs c F l m
  | _, _ => none
theorem Kp.trans {K : Fg} {H H1 H2 : Hp} (a : Kp K H H1) (b : Kp K H1 H2) : Kp K H H2 := ⟨fun x o e n => b.kp x o (a.kp x o e n) n, b.tabs, fun x e => a.dom x (b.dom x e)⟩
theorem eqTs_end {c : Str} {F : List D → FR} {l m : List D} {b : Bool} {i : Nat} (h : eqTs c F (l.drop i) (m.drop i) = some b) (hi : min l.length m.length ≤ i) (hi2 : i ≤ min l.length m.length) : b = (l.length == m.length) := by
  rcases Nat.lt_trichotomy l.length m.length with h1 | h1 | h1
  · have e1 : i = l.length := by omega
    rw [e1, List.drop_length] at h
    have : m.drop l.length ≠ [] := fun z => by have := List.drop_eq_nil_iff.mp z; omega
    cases hm : m.drop l.length with
    | nil => exact absurd hm this
    | cons x r =>
      rw [hm] at h
      cases h
      have : ¬ l.length = m.length := by omega
      simp [this]
  · have e1 : i = l.length := by omega
    have e2 : i = m.length := by omega
    rw [e1, List.drop_length, h1, List.drop_length] at h
    cases h
    simp [h1]
  · have e1 : i = m.length := by omega
    rw [e1, List.drop_length] at h
    have : l.drop m.length ≠ [] := fun z => by have := List.drop_eq_nil_iff.mp z; omega
    cases hm : l.drop m.length with
    | nil => exact absurd hm this
    | cons x r =>
      rw [hm] at h
      cases h
      have : ¬ l.length = m.length := by omega
      simp [this]
theorem op_eqT {X : Cx} {c : Str} {F : List D → FR} (hu : X.A.units + 100 < cLine) (q : EqTRq (rq X) c F) : OpR X (compareOp .Eq) (fun x y H Q => ∃ G dx dy b, (Le G H ∧ LamX.Tabs (lamT X.K) H ∧ noTb G) ∧ Rep X.K G dx x ∧ Rep X.K G dy y ∧ eqT c F dx dy = some b ∧ ∀ H', Kp X.K H H' → Q (.bl b) H') := by
  intro pins s σ H x y v u Q I rx ry z
  obtain ⟨G0, dx, dy, b, ⟨le, tb0, ng0⟩, r1, r2, e, hq⟩ := z
  obtain ⟨G, hG, le1, _, n1'⟩ := le.exact (K := X.K)
  have ng := n1' ng0
  replace r1 := Rep.mono le1 _ _ r1
  replace r2 := Rep.mono le1 _ _ r2
  unfold eqT at e
  split at e
  · rename_i l m
    have v1 : VW X.K G H (.tup l) x := ⟨Le.of_same hG, .inl r1⟩
    have v2 : VW X.K G H (.tup m) y := ⟨Le.of_same hG, .inl r2⟩
    obtain ⟨p, xs, rfl, hp, rr⟩ := v1.tup
    obtain ⟨p', ys, rfl, hp', rr'⟩ := v2.tup
    cases rx
    cases ry
    obtain ⟨its, q1, t1, z1⟩ := I.tuple hp
    obtain ⟨its2, q2, t2, z2⟩ := I.tuple hp'
    have L1 : its.length = l.length := by rw [← q1.length, rr.length]
    have L2' : its2.length = m.length := by rw [← q2.length, rr'.length]
    show wpAny (model X.prog X.w) X.A (richCompare .Eq _ _) _ _ _
    refine Cq.rc_tupB (by omega) (fun i => match l[i]?, m[i]? with | some a, some b => (eqP c F a b).getD true | _, _ => true)
      (fun i s' => ∃ H', Inv X pins σ H' s' ∧ Kp X.K H H' ∧ eqTs c F (l.drop i) (m.drop i) = some b) (fun s' => ∃ H', Inv X pins σ H' s' ∧ Kp X.K H H' ∧ b = false) t1 t2 (fun i h1 h2 s1 hI => ?_) (fun s1 hI => ?_) (fun s1 hI => ?_) ⟨H, I, ⟨fun a o e _ => e, tb0, fun a e => e⟩, by simpa using e⟩
    · obtain ⟨H1, I1, k1, e1⟩ := hI
      have h1' : i < l.length := by rw [← L1]; simpa using h1
      have h2' : i < m.length := by rw [← L2']; simpa using h2
      rw [List.drop_eq_getElem_cons h1', List.drop_eq_getElem_cons h2'] at e1
      unfold eqTs at e1
      have g1 : l[i]? = some l[i] := List.getElem?_eq_getElem h1'
      have g2 : m[i]? = some m[i] := List.getElem?_eq_getElem h2'
      obtain ⟨w1, ew1, rw1⟩ := rr.at g1
      obtain ⟨w2, ew2, rw2⟩ := rr'.at g2
      obtain ⟨u1, eu1, ru1⟩ := q1.get ew1
      obtain ⟨u2, eu2, ru2⟩ := q2.get ew2
      have x1 : its.toArray[i] = u1 := by
        have := List.getElem?_eq_some_iff.mp eu1
        obtain ⟨_, z⟩ := this
        simpa using z
      have x2 : its2.toArray[i] = u2 := by
        have := List.getElem?_eq_some_iff.mp eu2
        obtain ⟨_, z⟩ := this
        simpa using z
      rw [x1, x2, g1, g2]
      have hG1 : ∀ a o, G a = some o → H1 a = some o := fun a o e => k1.kp a o (hG a o e) (fun ps z => ng a ps (by rw [e, z]))
      cases ep : eqP c F l[i] m[i] with
      | none => rw [ep] at e1; cases e1
      | some r =>
        refine eqB_pair hu q ng ep rw1 rw2 ru1 ru2 I1 hG1 k1.tabs fun s' H' I' k' => ⟨by simp [ep], ?_⟩
        rw [ep] at e1
        cases r with
        | true => simp only [ep, Option.getD_some, if_true]; exact ⟨H', I', k1.trans k', e1⟩
        | false =>
          cases e1
          simp only [ep, Option.getD_some, Bool.false_eq_true, if_false]
          exact ⟨H', I', k1.trans k', trivial⟩
    · obtain ⟨H1, I1, k1, e1⟩ := hI
      have sz : (its.toArray.size == its2.toArray.size) = (l.length == m.length) := by rw [List.size_toArray, List.size_toArray, L1, L2']
      rw [List.size_toArray, List.size_toArray, L1, L2'] at e1
      have eb := eqTs_end e1 (Nat.le_refl _) (Nat.le_refl _)
      rw [sz, ← eb]
      exact ⟨.bl b, H1, I1, rfl, hq H1 k1⟩
    · obtain ⟨H1, I1, k1, rfl⟩ := hI
      exact ⟨.bl false, H1, I1, rfl, hq H1 k1⟩
  · cases e
def CE.eqT (c : Str) (F : List D → FR) (a b : CE) : CE where
  chk sc e := a.bor.isNone && (b.bor.isNone && chkCmp .Eq a b sc e)
  req r := EqTRq r c F ∧ a.req r ∧ b.req r
  bor := none
  pur := false
  ev env := (a.ev env).bind fun x e1 => (b.ev e1).bind fun y e2 => optE ((C.eqT c F x y).map D.bl) e2
  pok h := by cases h
  bok i h := by cases h
  sound sc X e W hc k q tk := by
    obtain ⟨h1, h⟩ := and3 hc
    obtain ⟨h2, h3⟩ := and3 h
    obtain ⟨x, y, pos, rfl, g1, g2, g3, g4⟩ := chkCmp_ok h3
    refine (pe_cmpR (op_eqT k.un q.1) (a.sound sc X x W g1 k q.2.1 tk) (b.sound sc X y W g2 k q.2.2 tk) g4).imp (eqI_core (by simpa using h1) (by simpa using h2) ?_)
    exact fun x y H Q G dx dy kk le r1 r2 e z => ⟨G, dx, dy, kk, le, r1, r2, e, z⟩
end C

set_option maxRecDepth 100000
set_option maxHeartbeats 4000000
namespace C
open PySem L2
/-! ### list(x), x * k; the requirements of own operators; a default () -/
/-- the i-th default object of a def -/
def dflA (ad : Fg → Addr) (i : Nat) (K : Fg) : Addr := match K.lookup (ad K) with
  | some ⟨_, _, .func fd, _⟩ => (match fd.defaults with
    | .ref t => (match K.lookup t with
      | some ⟨_, _, .seq its _, _⟩ => (match its[i]? with | some (.ref a) => a | _ => 0)
      | _ => 0)
    | _ => 0)
  | _ => 0
def bList : Bc where
  x := "list"
  v := .ty "list"
  f ds := match ds with | [.lst l] => some (.lst l) | [.tup l] => some (.lst l) | _ => none
  bx := by first | exact PyProof.Rows.boot_list | rfl
  nx := ⟨by decide, by decide⟩
  ok X hc _ pins s σ H xs us Q I r q0 := by
    obtain ⟨G, ds, d, le, p, e, q⟩ := rC_some q0
    clear q0
    split at e
    · cases e
      obtain ⟨x, rfl, v1⟩ := pair1 p
      obtain ⟨ad, ys, rfl, hs, rp⟩ := v1.lst
      refine call_list_of pins s σ H _ us Q I r ⟨ad, ys, rfl, .inl (SqL.of hs), fun l hl => ?_⟩
      have n := Nw.alloc (K := X.K) (o := .lst ys) le hl
      exact q (.ref l) _ (L2.upd G l (.lst ys)) n ⟨l, ys, rfl, upd_same, Reps.mono (Le.of_same n.2.1) _ _ rp⟩
    · cases e
      obtain ⟨x, rfl, v1⟩ := pair1 p
      obtain ⟨ad, ys, rfl, hs, rp⟩ := v1.tup
      refine call_list_of pins s σ H _ us Q I r ⟨ad, ys, rfl, .inr hs, fun l hl => ?_⟩
      have n := Nw.alloc (K := X.K) (o := .lst ys) le hl
      exact q (.ref l) _ (L2.upd G l (.lst ys)) n ⟨l, ys, rfl, upd_same, Reps.mono (Le.of_same n.2.1) _ _ rp⟩
    · cases e
/-- list(x), a new list -/
def listD : D → Option D
  | .lst l => some (.lst l)
  | .tup l => some (.lst l)
  | _ => none
def CF.list (a : CE) : CF where
  chk sc e := match e with | .Call (.Name y _) [o] [] _ => decide (y = "list") && (chkGl sc "list" && (notStar o && a.chk sc o)) | _ => false
  req z := z.mg "list" = none ∧ a.req z
  pur := false
  ev env := (a.ev env).bind fun x e1 => optE (listD x) e1
  pok h := by cases h
  sound sc X e W hc k q tk := by
    split at hc
    · rename_i y p o pos
      obtain ⟨h1, h⟩ := and3 hc
      obtain ⟨h2, h⟩ := and3 h
      obtain ⟨h3, h5⟩ := and3 h
      have ey := of_decide_eq_true h1
      subst ey
      refine (pe_callTy call_list_of (chkGl_ok h2 k) q.1 (by first | exact PyProof.Rows.boot_list | rfl) (pa_cons (a.sound sc X _ W h5 k q.2 tk) pa_nil (notStar_ok h3)) (by decide) (by decide) (notStar_ok h3) (nostar_any rfl)).imp fun σ H Q h => ?_
      obtain ⟨fx, L, G, env, R, h⟩ := h
      refine ⟨fx, L, G, env, R, ER.post_mono (ER.post_bind h) (fun d e1 _ h v H1 G1 R1 s1 v1 => ?_) fun _ _ _ h => h⟩
      obtain ⟨d', ef, h⟩ := optE_post h
      have vw := R1.vw v1
      cases d with
      | lst l =>
        cases ef
        obtain ⟨ad, ys, rfl, hs, rp⟩ := vw.lst
        refine ⟨ad, ys, rfl, .inl (SqL.of hs), fun w hw => ?_⟩
        obtain ⟨R2, fr⟩ := R1.fresh (o := .lst ys) (d := .lst l) hw ⟨ys, rfl, rp⟩
        exact h (.ref w) _ _ R2 s1 fr
      | tup l =>
        cases ef
        obtain ⟨ad, ys, rfl, hs, rp⟩ := vw.tup
        refine ⟨ad, ys, rfl, .inr hs, fun w hw => ?_⟩
        obtain ⟨R2, fr⟩ := R1.fresh (o := .lst ys) (d := .lst l) hw ⟨ys, rfl, rp⟩
        exact h (.ref w) _ _ R2 s1 fr
      | _ => cases ef
    · cases hc
theorem Reps.flat {K : Fg} {G : Hp} {l : List D} {xs : List V} (h : Reps K G l xs) : ∀ n : Nat, Reps K G (List.replicate n l).flatten (List.replicate n xs).flatten
  | 0 => rfl
  | n + 1 => by
    rw [List.replicate_succ, List.replicate_succ, List.flatten_cons, List.flatten_cons]
    exact Reps.append' h (Reps.flat h n)
/-- x * k, a list times an int -/
def repD (x y : D) : Option D := match x, y with
  | .lst l, .int i => if decide (-(2 ^ 63) ≤ i) && (decide (i < 2 ^ 63) && decide (l.length * i.toNat ≤ sizeLine)) then some (.lst (List.replicate i.toNat l).flatten) else none
  | _, _ => none
def CF.rep (a b : CE) : CF where
  chk sc e := match e with | .BinOp x p y _ => opEq p .Mult && (a.chk sc x && (b.chk sc y && (a.bor.isNone && b.bor.isNone))) | _ => false
  req r := a.req r ∧ b.req r
  pur := false
  ev env := (a.ev env).bind fun x e1 => (b.ev e1).bind fun y e2 => optE (repD x y) e2
  pok h := by cases h
  sound sc X e W hc k q tk := by
    cases e with
    | BinOp x p y pos =>
      obtain ⟨h1, h⟩ := and3 hc
      obtain ⟨h2, h⟩ := and3 h
      obtain ⟨h3, h⟩ := and3 h
      obtain ⟨h4, h5⟩ := and3 h
      have ha : a.bor = none := by simpa using h4
      have hb : b.bor = none := by simpa using h5
      rw [opEq_ok h1]
      refine (pe_op op_rep (a.sound sc X x W h2 k q.1 tk) (b.sound sc X y W h3 k q.2 tk)).imp fun σ H Q h => ?_
      obtain ⟨fx, L, G, env, R, h⟩ := h
      refine ⟨fx, L, G, env, R, ER.post_mono (ER.post_bind h) (fun dx e1 ea h x H1 G1 R1 s1 v1 => ?_) fun _ _ _ h => h⟩
      refine ⟨fx, L, G1, e1, R1, ER.post_mono (ER.post_bind h) (fun dy e2 eb h y H2 G2 R2 s2 v2 => ?_) (XW.mono s1)⟩
      rw [ha] at v1
      rw [hb] at v2
      obtain ⟨d', ef, hz⟩ := optE_post h
      clear h
      cases dx with
      | lst l =>
        cases dy with
        | int i =>
          unfold repD at ef
          dsimp only at ef
          split at ef
          · rename_i hy
            cases ef
            obtain ⟨z1, z⟩ := and3 hy
            obtain ⟨z2, z3⟩ := and3 z
            have vw : VW X.K G2 H2 (.lst l) x := ⟨R2.le, .inl (Rep.mono (Le.of_same s2) _ _ v1)⟩
            obtain ⟨ad, ys, rfl, hs, rp⟩ := vw.lst
            have ei : y = .int i := v2
            subst ei
            refine ⟨ad, i, ys, rfl, rfl, hs, of_decide_eq_true z1, of_decide_eq_true z2, by rw [← rp.length]; exact of_decide_eq_true z3, fun w hw => ?_⟩
            obtain ⟨R3, fr⟩ := R2.fresh (o := .lst (List.replicate i.toNat ys).flatten) (d := .lst (List.replicate i.toNat l).flatten) hw ⟨_, rfl, rp.flat i.toNat⟩
            exact hz (.ref w) _ _ R3 (s1.trans s2) fr
          · cases ef
        | _ => cases ef
      | _ => cases ef
    | _ => cases hc
section
variable {P : Program} {fa : List He.Fa} {ts : List He.Tab} {tf : List He.Defn} {fq : List Fq} {gn : List DefG} {w : World} {K : Fg} {mg : Str → Option Value} {h base : Heap} {A : Around} {d : DefG} {k n : Nat} {ps : List Str} {F : List D → FR}
theorem OkG.opRq (o : OkG P w K mg base d k ps n [] false F) (c m : Str) (hr : Room (k + 2) A) (hp : opIB c m K = true) (ha : d.ad K = He.ma K (ga K c) m) (hb : Bnd K d ps []) : OpRq ⟨P, w, K, mg, base, A⟩ c m n F := by
  obtain ⟨fd, f1, f2⟩ := o
  obtain ⟨dvs, ds, b1, b2, b3⟩ := hb fd f1
  have e := Reps.nil_eq (b3 fun _ => Option.none)
  subst e
  cases b2
  obtain ⟨h1, h⟩ := and3 hp
  obtain ⟨h2, h3⟩ := and3 h
  rw [ha] at f2
  exact ⟨k, _, fd, ps, f2, hr, of_decide_eq_true h1, h2, h3, b1⟩
theorem OkG.eqTRq (o : OkG P w K mg base d k ps 2 [] false F) (c : Str) (hr : Room (k + 2) A) (hp : opIB c "__eq__" K = true) (ha : d.ad K = He.ma K (ga K c) "__eq__") (hb : Bnd K d ps []) : EqTRq ⟨P, w, K, mg, base, A⟩ c F := by
  obtain ⟨kk, f, fd, ps, a1, a2, a3, a4, _, a6⟩ := o.opRq c "__eq__" hr hp ha hb
  exact ⟨kk, f, fd, ps, a1, a2, a3, a4, a6⟩
theorem Zc0.any (z : Zc0 P fa ts tf fq gn w K mg h base) (i : Nat) {f : Fg → Bool} (e : fq[i]? = some (.any f)) : f K = true := z.fcq i e
end
end C

set_option maxRecDepth 100000
set_option maxHeartbeats 4000000
namespace C
open PySem L2
/-! ### tuple([x for x in xs]), xs the list of a name that owns it -/
def CE.tupL (i j : Nat) : CE where
  chk sc e := match e with
    | .Call (.Name t _) [.ListComp (.Name x1 q1) [⟨.Name x2 q2, .Name p q3, [], 0⟩] scope pl] [] pc => decide (t = "tuple") && (chkGl sc "tuple" && (sc.calm && (chkVar sc i p && (sc.ow.contains i && (!sc.ow.contains j && (blkB sc.N sc.kd scope (ownOf sc.N [j]) && (chkLoc (inner sc scope) j x2 && chkVar (inner sc scope) j x1)))))))
    | _ => false
  req z := z.mg "tuple" = none
  bor := none
  pur := false
  ev env := match env[i]? with
    | some (some (.lst l)) => if decide (j < env.length) && decide (l.length ≤ sizeLine) then .ok (.tup l) env else .bad
    | _ => .bad
  pok h := by cases h
  bok i h := by cases h
  sound sc X e W hc k q tk := by
    split at hc
    · rename_i t q0 x1 q1 x2 q2 p q3 scope pl pc
      obtain ⟨h1, h⟩ := and3 hc
      obtain ⟨h2, h⟩ := and3 h
      obtain ⟨h3, h⟩ := and3 h
      obtain ⟨h4, h⟩ := and3 h
      obtain ⟨h5, h⟩ := and3 h
      obtain ⟨h6, h⟩ := and3 h
      obtain ⟨h7, h⟩ := and3 h
      obtain ⟨h8, h9⟩ := and3 h
      have et := of_decide_eq_true h1
      subst et
      have ho : i ∈ sc.ow := by simpa using h5
      have bk := blkB_ok k h7
      have xk := fun s H Cl cl fp => inner_ok k bk.kind s H Cl cl fp
      have lc := pe_lc (X := X) (elt := .Name x1 q1) (tg := .Name x2 q2) (iter := .Name p q3) (ifs := []) (pos := pl) (wi := iList X.K (tVar i)) (g := gName j) (tt := tYes) (te := tVar j) (k.calm.trans h3) k.nd (pi_list (chkVar_ok h4 k)) bk
        (fun s H Cl cl fp => by
          obtain ⟨g1, g2, g3⟩ := chkLoc_ok h8 (xk s H Cl cl fp)
          exact pg_name (xk s H Cl cl fp).nd g1 g2 g3) (fun s H Cl cl fp => pts_nil) (fun s H Cl cl fp => chkVar_ok h9 (xk s H Cl cl fp)) (notSet_ok rfl)
      rw [ownOf_slots] at lc
      refine (pe_callTy call_tuple_of (chkGl_ok h2 k) q (by first | exact PyProof.Rows.boot_tuple | rfl) (pa_cons lc pa_nil rfl) (by decide) (by decide) rfl (nostar_any rfl)).imp fun σ H Q h => ?_
      obtain ⟨fx, L, G, env, R, h⟩ := h
      dsimp only at h
      split at h
      · rename_i l e0
        split at h
        · rename_i hz
          obtain ⟨z1, z2⟩ := and3 hz
          have z1 := of_decide_eq_true z1
          have z2 := of_decide_eq_true z2
          obtain ⟨a, o, m1, m2, m3, _⟩ := R.own i _ ho e0
          obtain ⟨xs, rfl, rr⟩ := m3
          have hj : j < σ.length := by rw [← R.len]; exact z1
          have hlen : xs.length ≤ sizeLine := by rw [← rr.length]; exact z2
          refine ⟨_, m1, a, rfl, ⟨xs, SqL.of m2⟩, fun D hD => ?_⟩
          have haD : a ≠ D := fun z => by rw [z, hD] at m2; cases m2
          refine lc_list (xs := xs) (fun n H' => H' = L2.upd H D (.lst (xs.take n))) (by simp) (fun n H' _ hP => ?_) (fun n x H' hx hP => ?_) (fun H' hP => ?_)
          · subst hP
            exact SqL.of (by rw [upd_ne haD]; exact m2)
          · subst hP
            have hn : n < xs.length := (List.getElem?_eq_some_iff.mp hx).1
            refine ⟨?_, ?_⟩
            · show (((σ.set j none).set j (some x))).set j none = σ.set j none
              rw [List.set_set, List.set_set]
            · show (if (true : Bool) = true then (tVar j ((L2.wipe σ [j]).set j (some x)) (L2.upd H D (.lst (xs.take n))) fun y H4 => ∃ acc, H4 D = some (.lst acc) ∧ acc.length < sizeLine ∧ L2.upd H4 D (.lst (acc ++ [y])) = L2.upd H D (.lst (xs.take (n + 1)))) else L2.upd H D (.lst (xs.take n)) = L2.upd H D (.lst (xs.take (n + 1))))
              rw [if_pos rfl]
              refine ⟨x, ?_, xs.take n, upd_same, by rw [List.length_take]; omega, ?_⟩
              · show (((σ.set j none).set j (some x)))[j]? = some (some x)
                rw [List.getElem?_set_self (by rw [List.length_set]; exact hj)]
              · have : xs.take (n + 1) = xs.take n ++ [x] := by
                  rw [List.take_succ, hx]; rfl
                rw [this]
                funext b
                by_cases hb : b = D
                · subst hb; rw [upd_same, upd_same]
                · rw [upd_ne hb, upd_ne hb, upd_ne hb]
          · subst hP
            rw [List.take_length]
            have R2 : Rel sc X.K fx L G (L2.upd H D (.lst xs)) σ env := R.grow (same_upd hD) (Same.refl _) (fun a u e => .inl e) R.tab.g
            refine ⟨D, xs, rfl, .inl ⟨SqL.of upd_same, fun w hw => ?_⟩⟩
            have sm := same_upd (o := .tup xs) (R2.gnone hw)
            exact h _ _ _ (R2.alloc hw) sm ⟨w, _, rfl, .inl upd_same, Reps.mono (Le.of_same sm) _ _ rr⟩
        · exact h.elim
      · exact h.elim
    · cases hc
@[simp] theorem ev_tupL (i j : Nat) (env : Env) : (CE.tupL i j).ev env = match env[i]? with
    | some (some (.lst l)) => if decide (j < env.length) && decide (l.length ≤ sizeLine) then .ok (.tup l) env else .bad
    | _ => .bad := rfl
end C

set_option maxRecDepth 100000
namespace C
open PySem L2
section
variable {env : Env} {d : D}
@[simp] theorem ev_binI (op : Operator) (c : Str) (F : List D → FR) (a b : CE) : (CE.binI op c F a b).ev env = (a.ev env).bind fun x e1 => (b.ev e1).bind fun y e2 => if (isIns c x && rightI c y) = true then evCall F [] [none, none] [x, y] e2 else .bad := rfl
@[simp] theorem ev_lenI (c : Str) (F : List D → FR) (a : CE) : (CE.lenI c F a).ev env = (a.ev env).bind fun x e1 => optE ((C.lenI c F x).map D.int) e1 := rfl
@[simp] theorem ev_ixI (c : Str) (F : List D → FR) (a b : CE) : (CE.ixI c F a b).ev env = (a.ev env).bind fun x e1 => (b.ev e1).bind fun y e2 => if isIns c x = true then evCall F [] [none, none] [x, y] e2 else .bad := rfl
@[simp] theorem ev_rev (a : CE) : (CE.rev a).ev env = (a.ev env).bind fun x e1 => optE (revD x) e1 := rfl
@[simp] theorem revD_lst (l : List D) : revD (.lst l) = some (.lst l.reverse) := rfl
@[simp] theorem revD_tup (l : List D) : revD (.tup l) = some (.tup l.reverse) := by cases l <;> rfl
@[simp] theorem ev_lcn (l : Cn) (e : CE) : (CF.lcn l e).ev env = l.ev (.lst []) (lstLeaf e) env := rfl
@[simp] theorem ev_setLcn (i : Nat) (fz : Bool) (l : Cn) (e : CE) : (CS.setLcn i fz l e).ev env = (l.ev (.lst []) (lstLeaf e) env).bindS fun d e => .nx (e.set i (some d)) := rfl
@[simp] theorem ev_mo (b : Mo) (i : Nat) (r : CA) : (CE.mo b i r).ev env = match env[i]? with
  | some (some (.lst _)) => (r.ev env).bind fun ds e => (match e[i]? with
    | some (some d) => (match b.f d ds with
      | some (res, d') => .ok res (e.set i (some d'))
      | none => .bad)
    | _ => .bad)
  | _ => .bad := rfl
@[simp] theorem ev_mo0 (b : Mo) (i : Nat) : (CE.mo0 b i).ev env = match env[i]? with
  | some (some d) => (match b.f d [] with
      | some (res, d') => .ok res (env.set i (some d'))
      | none => .bad)
  | _ => .bad := rfl
@[simp] theorem mAppend_f (l : List D) (x : D) : mAppend.f (.lst l) [x] = if l.length < sizeLine then some (.non, .lst (l ++ [x])) else none := rfl
@[simp] theorem ev_eqT (c : Str) (F : List D → FR) (a b : CE) : (CE.eqT c F a b).ev env = (a.ev env).bind fun x e1 => (b.ev e1).bind fun y e2 => optE ((C.eqT c F x y).map D.bl) e2 := rfl
@[simp] theorem eqT_tup (c : Str) (F : List D → FR) (l m : List D) : C.eqT c F (.tup l) (.tup m) = eqTs c F l m := rfl
@[simp] theorem ev_listF (a : CE) : (CF.list a).ev env = (a.ev env).bind fun x e1 => optE (listD x) e1 := rfl
@[simp] theorem listD_lst (l : List D) : listD (.lst l) = some (.lst l) := rfl
@[simp] theorem listD_tup (l : List D) : listD (.tup l) = some (.lst l) := rfl
@[simp] theorem ev_rep (a b : CE) : (CF.rep a b).ev env = (a.ev env).bind fun x e1 => (b.ev e1).bind fun y e2 => optE (repD x y) e2 := rfl
@[simp] theorem rightI_int (c : Str) (i : Int) : rightI c (.int i) = true := rfl
@[simp] theorem rightI_ins (c c' : Str) (fs : List (Str × D)) : rightI c (.ins c' fs) = decide (c' = c) := rfl
@[simp] theorem bTuple_lst (l : List D) : bTuple.f [.lst l] = some (.tup l) := rfl
end
end C

set_option maxRecDepth 100000
namespace C
open PySem L2
/-! ### comprehensions, plainly -/
@[simp] theorem ev_astar {env : Env} (c : CE) (r : CA) : (CA.star c r).ev env = (c.ev env).bindA fun d e => match d with
    | .lst l => (r.ev e).bindA fun ds e => .ok (l ++ ds) e
    | .tup l => (r.ev e).bindA fun ds e => .ok (l ++ ds) e
    | _ => .bad := rfl
theorem lcE_map2 {α : Type} {g : D → Env → Option Env} {t : Env → TR} {e : Env → ER} {vs : List Nat} (φ ψ : α → D) (env : Env) : ∀ (ds : List α) (acc : List D), (∀ x ∈ ds, ∃ e1 e3, g (φ x) env = some e1 ∧ t e1 = .ok true e1 ∧ e e1 = .ok (ψ x) e3 ∧ wipeE e3 vs = env) → acc.length + ds.length ≤ sizeLine →
    lcE g t e vs (ds.map φ) acc env = .ok (.lst (acc ++ ds.map ψ)) env
  | [], acc, _, _ => by simp [lcE]
  | x :: l, acc, h, hl => by
    obtain ⟨e1, e3, h1, h2, h3, h4⟩ := h x List.mem_cons_self
    have ih := lcE_map2 φ ψ env l (acc ++ [ψ x]) (fun y hy => h y (List.mem_cons_of_mem _ hy)) (by simp at hl ⊢; omega)
    have hz : acc.length < sizeLine := by simp at hl; omega
    rw [List.map_cons]
    unfold lcE
    simp only [h1, h2, h3, h4, if_pos hz, ih]
    simp
/-- a comprehension over one name, the frame as before -/
theorem lc_ok {α : Type} (φ ψ : α → D) (l : List α) {i : Nat} {c : CI} {e : CE} {env : Env} (hc : c.ev env = .ok (l.map φ) env) (he : ∀ x ∈ l, e.ev (env.set i (some (φ x))) = .ok (ψ x) (env.set i (some (φ x)))) (hi : i < env.length) (hz : l.length ≤ sizeLine) :
    Lc.ev ⟨[i], CG.name i, c, none, e⟩ env = .ok (.lst (l.map ψ)) env := by
  have h := lcE_map2 (g := (CG.name i).asg) (t := tsE none) (e := e.ev) (vs := [i]) φ ψ (env.set i none) l [] (fun x hx => ⟨env.set i (some (φ x)), env.set i (some (φ x)), by simp, rfl, he x hx, by simp [wipeE]⟩) (by simpa using hz)
  unfold Lc.ev
  simp only [hc, ER.bind_ok, AR.bind_ok]
  unfold evLc
  have hw : wipeE env [i] = env.set i none := rfl
  rw [hw, h]
  simp [backE, hi]
theorem maxI_map_mem {α β : Type} (f : α → Int) (g : β → Int) (l : List α) (m : List β) (h : ∀ x, x ∈ l.map f ↔ x ∈ m.map g) (k : Int) : maxI (l.map f) k = maxI (m.map g) k := by
  obtain ⟨a1, a2, a3⟩ := maxI_ok (l.map f) k
  obtain ⟨b1, b2, b3⟩ := maxI_ok (m.map g) k
  apply Int.le_antisymm
  · rcases a1 with a1 | a1
    · rw [a1]; exact b2
    · exact b3 _ ((h _).mp a1)
  · rcases b1 with b1 | b1
    · rw [b1]; exact a2
    · exact a3 _ ((h _).mpr b1)
theorem blsD_map {α : Type} (f : α → Bool) : ∀ l : List α, blsD (l.map fun x => D.bl (f x)) = some (l.map f)
  | [] => rfl
  | x :: l => by simp [blsD, blsD_map f l]
theorem intsD_map {α : Type} (f : α → Int) : ∀ l : List α, intsD (l.map fun x => D.int (f x)) = some (l.map f)
  | [] => rfl
  | x :: l => by simp [intsD, intsD_map f l]
theorem bMax_map {α : Type} (f : α → Int) (k : Int) (l : List α) : bMax.f [.lst (D.int k :: l.map fun x => D.int (f x))] = some (.int (maxI (l.map f) k)) := by
  unfold bMax
  simp [maxF, intsD, intsD_map]
theorem bAny_map {α : Type} (f : α → Bool) (l : List α) : bAny.f [.lst (l.map fun x => D.bl (f x))] = some (.bl (l.any f)) := by
  unfold bAny
  simp [anyF, blsD_map, Function.comp_def]
@[simp] theorem truN_tup (l : List D) : truN (.tup l) = some (!l.isEmpty) := by cases l <;> rfl
end C

set_option maxRecDepth 100000
set_option maxHeartbeats 4000000
namespace C
open PySem L2
/-! ### f(..), f a name that holds one of some defs -/
theorem pe_callV {sc : SC} {X : Cx} {T : CXT} {k i : Nat} {f : Addr} {fd : FuncData} {ps : List Str} {sp : Sp} {E : St → XK} {y : Str} {yp : Pos} {e : Expr} {es : List Expr} {t : TA} {pos : Pos} (hy : chkVar sc i y = true) (xk : XOk sc X)
    (F : FnOk X.prog X.w X.K X.mg X.base T k f fd ps sp) (hr : Room k X.A) (hk : PySem.W.keepIn X.K (.ref f) = true) (hb : Binds X.K fd ps []) (hx : ∀ σ, PassesAt T X σ (E σ)) (ha : PA X (e :: es) t) (ns : (e :: es).all notStar = true) :
    PE X (.Call (.Name y yp) (e :: es) [] pos) (fun σ H Q => σ[i]? = some (some (.ref f)) ∧ tCallSD sp [] E t σ H Q) := by
  refine ⟨fun pins s σ H Q I ⟨hs, h⟩ => ?_⟩
  refine wpAny_Call_Name_kw (thn ((chkVar_ok (pos := yp) hy xk).run pins s σ H (fun v H1 => v = .ref f ∧ H1 = H) I ⟨.ref f, hs, rfl, rfl⟩) fun u s1 ⟨v, H1, I1, r1, ev, eH⟩ => ?_)
  subst ev
  subst eH
  cases r1
  rw [List.all_cons] at ns
  refine PySem.W.callWith_K (h₀ := X.base) I.ok.mod.kin hk (thn (ha.run pos pins s1 σ _ _ I1 h) fun us s2 z => ?_) (notStar_ok (and3 ns).1) (nostar_any (and3 ns).2)
  obtain ⟨vs, H2, I2, rv, q2⟩ := z
  exact ⟨I2.kIn, run_fnSD (us := us) F hr hb .nil (hx σ) I2 rv q2⟩
def altF (x : Str) : List (Str × (List D → FR)) → Option (List D → FR)
  | [] => none
  | (y, F) :: l => if x = y then some F else altF x l
theorem altF_mem {x : Str} {F : List D → FR} : ∀ {l : List (Str × (List D → FR))}, altF x l = some F → (x, F) ∈ l
  | [], h => by cases h
  | (y, G) :: l, h => by
    unfold altF at h
    split at h
    · rename_i e; subst e; cases h; exact List.mem_cons_self
    · exact List.mem_cons_of_mem _ (altF_mem h)
def evCallV (i : Nat) (al : List (Str × (List D → FR))) (r : CC) (env : Env) : ER := match env[i]? with
  | some (some (.gl x)) => (match altF x al with
    | some F => (r.ev env).bind fun ds e => evCall F [] r.sl ds e
    | none => .bad)
  | _ => .bad
def CE.callV (i n : Nat) (al : List (Str × (List D → FR))) (r : CC) : CE where
  chk sc e := match e with | .Call (.Name y _) (e :: es) [] _ => chkVar sc i y && (!(sc.ow.contains i) && (decide ((slR r.sl).Nodup) && (decide (r.sl.length = n) && r.chk sc (e :: es)))) | _ => false
  req z := (∀ p ∈ al, FnRq z p.1 n (posR 0 r.sl) false [] p.2 ∧ z.mg p.1 = some (.ref (ga z.K p.1))) ∧ r.req z
  bor := none
  pur := false
  ev := evCallV i al r
  pok h := by cases h
  bok i h := by cases h
  sound sc X e W hc k q tk := by
    split at hc
    · rename_i y p e1 es pos
      obtain ⟨h1, h⟩ := and3 hc
      obtain ⟨h2, h⟩ := and3 h
      obtain ⟨h3, h⟩ := and3 h
      obtain ⟨h4, h5⟩ := and3 h
      have no : i ∉ sc.ow := by simpa using h2
      refine ⟨fun pins s σ H Q I h => ?_⟩
      obtain ⟨fx, L, G, env, R, h⟩ := h
      unfold evCallV at h
      split at h
      · rename_i x ei
        split at h
        · rename_i F ef
          obtain ⟨⟨kk, f, fd, ps, dvs, dsv, Fk, hr, hm, hk, hb, hv, hd⟩, hg⟩ := q.1 (x, F) (altF_mem ef)
          have ea : f = ga X.K x := by
            have := hm.symm.trans hg
            cases this
            rfl
          subst ea
          have e0 : dvs = [] := by
            have := (hd G).length
            cases dvs with
            | nil => rfl
            | cons _ _ => simp at this
          subst e0
          cases hv
          obtain ⟨v, h6, h7⟩ := R.frz i _ no ei
          have h7 : v = .ref (ga X.K x) := h7
          subst h7
          refine (pe_callV h1 k Fk hr hk hb (fun σ => passAt tk σ) (r.sound sc X _ W h5 k q.2 tk) (r.star sc _ h5)).run pins s σ H Q I ⟨h6, fx, L, G, env, R, AR.post_mono (AR.post_bind h) (fun ds e1 _ h vs H1 G1 R1 s1 ar => ?_) fun _ _ _ h => h⟩
          exact call_to R1 ar (of_decide_eq_true h3) hd (by rw [List.length_nil, Nat.add_zero]; exact of_decide_eq_true h4) s1 h
        · exact h.elim
      · exact h.elim
    · cases hc
@[simp] theorem ev_callV (i n : Nat) (al : List (Str × (List D → FR))) (r : CC) (env : Env) : (CE.callV i n al r).ev env = evCallV i al r env := rfl
end C

set_option maxRecDepth 100000
set_option maxHeartbeats 4000000
namespace C
open PySem L2 PySem.W
/-! ### sorted(x), x a list of plain data of one form -/
def encD (d : D) : PyData := (datOf d).getD .none
def sortOk (l : List D) : Prop := ∃ bs, datsOf l = some bs ∧ AllAlike bs ∧ Sortable bs ∧ l.length ≤ sizeLine ∧ ∀ b ∈ bs, b.depth ≤ 50
def isT1 : PyData → Bool
  | .tuple (_ :: _) => true
  | _ => false
def isNT : PyData → Bool
  | .none => false
  | .tuple _ => false
  | _ => true
def sortB (l : List D) : Bool := match datsOf l with
  | some bs => (bs.all fun d => bs.all fun e => alike d e) && ((bs.all isT1 || bs.all isNT) && (decide (l.length ≤ sizeLine) && bs.all fun b => decide (b.depth ≤ 50)))
  | none => false
theorem sortB_ok {l : List D} (h : sortB l = true) : sortOk l := by
  unfold sortB at h
  split at h
  · rename_i bs e
    obtain ⟨h1, h⟩ := and3 h
    obtain ⟨h2, h⟩ := and3 h
    obtain ⟨h3, h4⟩ := and3 h
    refine ⟨bs, e, fun d hd d' hd' => ?_, ?_, of_decide_eq_true h3, fun b hb => of_decide_eq_true (List.all_eq_true.mp h4 b hb)⟩
    · exact List.all_eq_true.mp (List.all_eq_true.mp h1 d hd) d' hd'
    · rcases Bool.or_eq_true_iff.mp h2 with h2 | h2
      · refine .inl fun d hd => ?_
        have := List.all_eq_true.mp h2 d hd
        unfold isT1 at this
        split at this
        · exact ⟨_, _, rfl⟩
        · cases this
      · refine .inr fun d hd => ?_
        have := List.all_eq_true.mp h2 d hd
        refine ⟨fun z => ?_, fun xs z => ?_⟩ <;> (subst z; cases this)
  · cases h
def sortD : D → Option D
  | .lst l => if sortB l = true then some (.lst (l.mergeSort (dataLe false encD))) else none
  | _ => none
theorem encD_map : ∀ {l : List D} {bs : List PyData}, datsOf l = some bs → l.map encD = bs
  | [], bs, h => by cases h; rfl
  | d :: l, bs, h => by
    unfold datsOf at h
    split at h
    · rename_i y ys e1 e2
      cases h
      rw [List.map_cons, encD_map e2]
      unfold encD
      rw [e1]
      rfl
    · cases h
theorem each_reps {K : Fg} {G : Hp} : ∀ {l : List D} {xs : List V} {us : List Value}, Reps K G l xs → Vals xs us → EachIs (fun u d => ∃ v, RelV v u ∧ Rep K G d v) us l
  | [], xs, us, r, v => by cases r; cases v; exact .nil
  | d :: l, xs, us, r, v => by
    obtain ⟨x, t, rfl, h1, h2⟩ := r
    cases v with
    | cons v1 v2 => exact .cons ⟨x, v1, h1⟩ (each_reps h2 v2)
theorem reps_each {K : Fg} {G : Hp} : ∀ {l : List D} {us : List Value}, EachIs (fun u d => ∃ v, RelV v u ∧ Rep K G d v) us l → ∃ xs, Reps K G l xs ∧ Vals xs us
  | _, _, .nil => ⟨[], rfl, .nil⟩
  | _, _, .cons ⟨v, h1, h2⟩ t => by
    obtain ⟨xs, h3, h4⟩ := reps_each t
    exact ⟨v :: xs, ⟨v, xs, rfl, h2, h3⟩, .cons h1 h4⟩
def rSortD (K : Fg) : List V → Hp → VK → Prop := fun vs H Q => ∃ a G l xs, vs = [V.ref a] ∧ Le G H ∧ H a = some (.lst xs) ∧ Reps K G l xs ∧ sortOk l ∧ ∀ ys p, Reps K G (l.mergeSort (dataLe false encD)) ys → H p = none → Q (.ref p) (L2.upd H p (.lst ys))
theorem cr_sortD {X : Cx} (hu : X.A.units + 100 < cLine) : CallR X (.builtin "sorted") (rSortD X.K) := by
  intro pins s σ H vs us Q I r h
  obtain ⟨a, G, l, xs, rfl, le, ha, rp, ⟨bs, eb, al, so, hz, dp⟩, q⟩ := h
  obtain ⟨its, rv, hl, hz'⟩ := I.list (SqL.of ha)
  rw [Vals.ref1 r]
  obtain ⟨as, rd⟩ := Dp.readsAll I bs xs its (Reps.dp le l xs bs rp eb) rv
  have em := encD_map eb
  rw [← em] at rd al so dp
  refine sorted_data (R := fun u d => ∃ v, RelV v u ∧ Rep X.K G d v) (enc := encD) hl.isList (each_reps rp rv) (readsAll_each encD rd) al so hz (fun b hb => ?_) fun out ho eo => ?_
  · have := dp (encD b) (List.mem_map_of_mem hb)
    omega
  · obtain ⟨ys, h1, h2⟩ := reps_each eo
    obtain ⟨ep, he'⟩ := PyProof.Rows.sortedAll_at s.heap its out.toArray
    have hlen : ys.length ≤ sizeLine := by
      rw [h2.length, ho]
      exact hz
    exact ⟨.ref _, L2.upd H (s.heap.objs.size + 1) (.lst ys), I.laid (t' := s.toks) (fun _ _ => PyProof.Rows.sortedAll_old) (Nat.le_succ _) ⟨hlen, out, ep, h2, he'⟩, rfl, q _ _ h1 (I.hok.fresh (Nat.le_succ _))⟩
def CF.sorted (a : CE) : CF where
  chk sc e := match e with | .Call (.Name y _) [o] [] _ => decide (y = "sorted") && (chkGl sc "sorted" && (notStar o && a.chk sc o)) | _ => false
  req z := z.mg "sorted" = none ∧ a.req z
  pur := false
  ev env := (a.ev env).bind fun x e1 => optE (sortD x) e1
  pok h := by cases h
  sound sc X e W hc k q tk := by
    split at hc
    · rename_i y p o pos
      obtain ⟨h1, h⟩ := and3 hc
      obtain ⟨h2, h⟩ := and3 h
      obtain ⟨h3, h5⟩ := and3 h
      have ey := of_decide_eq_true h1
      subst ey
      refine (pe_callB (cr_sortD k.un) (chkGl_ok h2 k) q.1 (by first | exact PySem.boot_sorted | rfl) (pa_cons (a.sound sc X _ W h5 k q.2 tk) pa_nil (notStar_ok h3)) (by decide) (by decide) (notStar_ok h3) (nostar_any rfl)).imp fun σ H Q h => ?_
      obtain ⟨fx, L, G, env, R, h⟩ := h
      refine ⟨fx, L, G, env, R, ER.post_mono (ER.post_bind h) (fun d e1 _ h v H1 G1 R1 s1 v1 => ?_) fun _ _ _ h => h⟩
      obtain ⟨d', ef, h⟩ := optE_post h
      have vw := R1.vw v1
      cases d with
      | lst l =>
        have ef : (if sortB l = true then some (D.lst (l.mergeSort (dataLe false encD))) else none) = some d' := ef
        split at ef
        · rename_i ok
          cases ef
          obtain ⟨ad, ys, rfl, hs, rp⟩ := vw.lst
          refine ⟨ad, G1, l, ys, rfl, R1.le, hs, rp, sortB_ok ok, fun zs w rz hw => ?_⟩
          obtain ⟨R2, fr⟩ := R1.fresh (o := .lst zs) (d := .lst (l.mergeSort (dataLe false encD))) hw ⟨zs, rfl, rz⟩
          exact h (.ref w) _ _ R2 s1 fr
        · cases ef
      | _ => cases ef
    · cases hc
@[simp] theorem ev_sorted (a : CE) (env : Env) : (CF.sorted a).ev env = (a.ev env).bind fun x e1 => optE (sortD x) e1 := rfl
end C

set_option maxRecDepth 100000
set_option maxHeartbeats 4000000
namespace C
open PySem L2
/-! ### {}, {k: v for ..} -/
def emptyD (t : Bool) : D := if t then .dT [] else .dK []
/-- {}; t: the keys will be tuples -/
def CF.dnew (t : Bool) : CF where
  chk _ e := match e with | .Dict [] [] _ => true | _ => false
  req _ := True
  pur := true
  ev env := .ok (emptyD t) env
  pok _ env d env' h := by cases h; rfl
  sound sc X e W hc k q tk := by
    split at hc
    · cases t with
      | false =>
        refine pe_dnewK.imp fun σ H Q h => ?_
        obtain ⟨fx, L, G, env, R, h⟩ := h
        intro p hp
        obtain ⟨R2, fr⟩ := R.fresh (o := .dK []) (d := .dK []) hp ⟨[], rfl, rfl⟩
        exact h (.ref p) _ _ R2 (Same.refl _) fr
      | true =>
        refine pe_dnewT.imp fun σ H Q h => ?_
        obtain ⟨fx, L, G, env, R, h⟩ := h
        intro p hp
        obtain ⟨R2, fr⟩ := R.fresh (o := .dT []) (d := .dT []) hp ⟨[], rfl, rfl⟩
        exact h (.ref p) _ _ R2 (Same.refl _) fr
    · cases hc
@[simp] theorem ev_dnew (t : Bool) (env : Env) : (CF.dnew t).ev env = .ok (emptyD t) env := rfl
def dputD : D → D → D → Option D
  | .dK l, k, d => if l.length < sizeLine then (keyD k).map fun k => .dK (putD l k d) else none
  | .dT l, k, d => if l.length < sizeLine then (tkeyD k).map fun k => .dT (putD l k d) else none
  | _, _, _ => none
def dctLeaf (ck cv : CE) (d : D) (env : Env) : Option (D × Env) := match ck.ev env with
  | .ok k e1 => (match cv.ev e1 with
    | .ok v e2 => (dputD d k v).map fun d' => (d', e2)
    | _ => none)
  | _ => none
def tDct (tk tv : TE) (D0 : Addr) : Cq.TLf := fun σ H Nx => tk σ H fun x H1 => tv σ H1 fun y H2 => ∃ H3, DPut H2 D0 x y H3 ∧ Nx H3
/-- the guarded object is changed -/
theorem Rel.guardUpd {sc : SC} {K : Fg} {fx : Fx} {L : List Addr} {D0 : Addr} {G H : Hp} {σ : St} {env : Env} {ho o' : HO} (R : Rel sc K (fx.with D0 ho) L G H σ env) (hF : fx.F D0 = none) (hL : D0 ∉ L) (hB : fx.B D0 = none) (hp : plainO ho) (ht : ¬ isTp ho) (hn : ∀ ps, o' ≠ .tbl ps) :
    Rel sc K (fx.with D0 o') L G (L2.upd H D0 o') σ env := by
  obtain ⟨Ru, hH, gD, nD⟩ := R.unguard hF hL hB ht
  have Rc := Ru.chg (H' := L2.upd H D0 o') [D0] (fun b u eb nb _ => by rw [upd_ne fun q => nb (by simp [q])]; exact eb) (tabs_keep Ru.tab.tabs fun b u eb np => by
    have : b ≠ D0 := fun q => np (by rw [q, hH] at eb; cases eb; exact hp)
    rw [upd_ne this]; exact eb) (fun b eb => by
    by_cases q : b = D0
    · rw [q, upd_same] at eb; cases eb
    · rw [upd_ne q] at eb; exact eb) (Same.refl _) (fun b u eb => .inl eb) (fun b hb => by
    have : b = D0 := by simpa using hb
    subst this
    exact ⟨gD, hF, hL, by rw [upd_same]; simp⟩) Ru.tab.g rfl fun j dj ej => .inl ⟨ej, fun hj b sb hb => by
      have : b = D0 := by simpa using hb
      subst this
      exact nD j dj hj ej sb⟩
  exact Rc.guard upd_same gD hF hL nD hn
theorem dputD_ok {K : Fg} {G H : Hp} {D0 : Addr} {d k v d' : D} {ho : HO} {x y : V} (le : Le G H) (hH : H D0 = some ho) (ro : ORep K G d ho) (rk : Rep K G k x) (rv : Rep K G v y) (h : dputD d k v = some d') : ∃ o', DPut H D0 x y (L2.upd H D0 o') ∧ ORep K G d' o' := by
  have vk : VW K G H k x := ⟨le, .inl rk⟩
  unfold dputD at h
  split at h
  · split at h
    · rename_i l k d hz
      obtain ⟨m, e1, rfl⟩ := Option.map_eq_some_iff.mp h
      obtain ⟨xs, rfl, rr⟩ := ro
      exact ⟨_, .inl ⟨xs, m, hH, vk.key e1, by rw [← rr.length]; exact hz, rfl⟩, _, rfl, rr.put rv⟩
    · cases h
  · split at h
    · rename_i l k d hz
      obtain ⟨m, e1, rfl⟩ := Option.map_eq_some_iff.mp h
      obtain ⟨xs, rfl, rr⟩ := ro
      obtain ⟨b, eb, hb⟩ := vk.tkey e1
      exact ⟨_, .inr ⟨xs, m, b, hH, eb, hb, by rw [← rr.length]; exact hz, rfl⟩, _, rfl, rr.put rv⟩
    · cases h
  · cases h
theorem leaf_dct {sc : SC} {K : Fg} {fx : Fx} {L : List Addr} {D0 : Addr} {ck cv : CE} (hF : fx.F D0 = none) (hL : D0 ∉ L) (hB : fx.B D0 = none) :
    LeafTo sc K fx L D0 (dctLeaf ck cv) (tDct (tE sc K none ck.ev fun _ _ _ _ => False) (tE sc K none cv.ev fun _ _ _ _ => False) D0) := by
  intro σ H G env d ho d' e' Nx R ro hE fin
  unfold dctLeaf at hE
  refine ⟨_, L, G, env, R, ?_⟩
  cases ek : ck.ev env with
  | bad => rw [ek] at hE; cases hE
  | exc _ _ _ => rw [ek] at hE; cases hE
  | ok k e1 =>
    rw [ek] at hE
    dsimp only at hE
    intro x H1 G1 R1 s1 rx
    refine ⟨_, L, G1, e1, R1, ?_⟩
    cases ev : cv.ev e1 with
    | bad => rw [ev] at hE; cases hE
    | exc _ _ _ => rw [ev] at hE; cases hE
    | ok v e2 =>
      rw [ev] at hE
      dsimp only at hE
      obtain ⟨d2, ed, ee⟩ := Option.map_eq_some_iff.mp hE
      cases ee
      intro y H2 G2 R2 s2 ry
      have ro2 := ORep.mono (Le.of_same (s1.trans s2)) ro
      obtain ⟨_, hH, _, _⟩ := R2.unguard hF hL hB ro2.ntp
      obtain ⟨o', g1, g2⟩ := dputD_ok R2.le hH ro2 (Rep.mono (Le.of_same s2) _ _ rx) ry ed
      exact ⟨_, g1, fin _ G2 o' (R2.guardUpd hF hL hB ro2.plain ro2.ntp g2.plain.1) (s1.trans s2) g2⟩
/-- the store of a dict comprehension -/
theorem d_dictSet {X : Cx} {pins : List (Addr × Obj)} {σ : St} {H H' : Hp} {s : Shared} {a : Addr} {y v : V} {u r : Value} {A : Around} {E : Value → Shared → Prop} {Q : Unit → Shared → Prop} (hu : A.units + 1 < cLine) (I : Inv X pins σ H s) (g : DPut H a y v H') (ry : RelV y u) (rv : RelV v r) (h : ∀ s', Inv X pins σ H' s' → Q () s') :
    wpAny (model X.prog X.w) A (dictSet a u r) Q E s := by
  rcases g with ⟨kvs, k, e, ey, l, eH⟩ | ⟨kvs, k, b, e, ey, eb, l, eH⟩
  · subst ey eH
    obtain ⟨z, hd, vs, rel, dd⟩ := dk_of I.hok e
    have hz : vs.length ≤ sizeLine := by rw [← rel.length]; exact z
    have hl : (putK kvs k v).length ≤ sizeLine := by have := length_putK kvs k v; omega
    refine wpAny_dictSet_pairs (hsz := hz) (kV_is ry) dd fun h' dd' hs => h _ ?_
    have he : ∃ q, h'.get? a = some q := let ⟨q, _, _, hq, _⟩ := dd'; ⟨q, hq⟩
    exact d_write I (by rw [e]; exact True.intro) hs he (dk_new hl hd (rel.put k rv) dd')
  · subst ey eH
    cases (show u = Value.ref b from ry)
    obtain ⟨z, hd, xs, rel, dd⟩ := dt_of I.hok e
    have hz : xs.length ≤ sizeLine := by rw [← Paired.length rel]; exact z
    have hl : (putK kvs k v).length ≤ sizeLine := by have := length_putK kvs k v; omega
    refine wpAny_dictSet_heap (hsz := hz) (show A.units < cLine by omega) (key_of I.hok eb) dd fun h' dd' hs => h _ ?_
    obtain ⟨q, es, ep, hq, h2, h3, h4, _, h5⟩ := dd'
    refine d_write I (by rw [e]; exact True.intro) hs ⟨q, hq⟩ ⟨hl, hd, _, (rel.put k eb rv).keeps fun c ys ec => ?_, q, es, ep, hq, h2, h3, h4, h5⟩
    rw [upd_ne (ne_of ec e (fun z => nomatch z))]
    exact ec
theorem lf_dct {X : Cx} {kx vx : Expr} {tk tv : TE} {D0 : Addr} (hu : X.A.units + 1 < cLine) (hx : ∀ e s, X.xe e s → False) (hk : PE X kx tk) (hv : PE X vx tv) : Cq.Lf X (do
        let kv ← eval kx X.env
        let vv ← holding [kv] (eval vx X.env)
        match Value.ref D0 with
        | .ref d => do
          standAt { kx.pos with endLine := vx.pos.endLine, endCol := vx.pos.endCol }
          holding [kv, vv] (dictSet d kv vv)
        | _ => unsupported "internal:dictcomp") (tDct tk tv D0) := by
  intro pins s σ H Nx I h
  refine wpAny_bind (wpAny_mono (hk.run pins s σ H _ I h) (fun z s1 hz => ?_) fun e s z => hx e s z)
  obtain ⟨x, H1, I1, rx, h1⟩ := hz
  refine wpAny_bind (wpAny_holding (wpAny_mono (hv.run pins s1 σ H1 _ I1 h1) (fun z s2 hz => ?_) fun e s z => hx e s z))
  obtain ⟨y, H2, I2, ry, H3, g, nx⟩ := hz
  refine wpAny_bind (wpAny_standAt (wpAny_holding ?_))
  exact d_dictSet hu I2 g rx ry fun s' I' => ⟨_, I', nx⟩
theorem acc_dct (t : Bool) : Cq.AccOk (Cq.aDct (if t then .dT [] else .dK [])) := by
  refine ⟨fun h => ?_, fun {X pins σ H s} I => ?_⟩
  · exact wpAny_newObj_type h (by show (#[] : Array DictEntry).size ≤ sizeLine + 1; simp)
  · cases t with
    | false => exact dk_empty s.heap I.big
    | true => exact dt_empty s.heap I.big
end C

set_option maxRecDepth 100000
set_option maxHeartbeats 4000000
namespace C
open PySem L2
theorem eval_DictComp' (kx vx : Expr) (gens : List Comprehension) (scope : Scope) (pos : Pos) (env : PySem.Env) : eval (.DictComp kx vx gens scope pos) env =
    comprehension (.DictComp kx vx gens scope pos) scope env (firstIterPos gens pos) newDict (firstAsync gens) (firstIter gens env) := rfl
theorem sw_trueD {kx vx : Expr} {gs : List Comprehension} {scope : Scope} {pos py : Pos} {y : Str} {l : Nat} {env : PySem.Env} (hk : env.scope.kind = .function) (hy : env.scope.names.lookup y = some .local) (hl : (py.line == pos.line) = true)
    (ha : (scope.names.any fun (n, k) => n == y && (k == .local || k == .cell)) = false) : swapsWith (.DictComp kx vx gs scope pos) (some (.Name y py)) l env = pure true := by
  have ky : env.kindOf y = some .local := hy
  have hb : env.blockKind = .function := by unfold PySem.Env.blockKind; rw [hk]; rfl
  unfold swapsWith
  simp only [hb, ky, ha, Expr.pos, hl]
  rfl
theorem emptyD_rep {K : Fg} (t : Bool) (G : Hp) : ORep K G (emptyD t) (Cq.aDct (if t then .dT [] else .dK [])).ho := by
  cases t
  · exact ⟨[], rfl, rfl⟩
  · exact ⟨[], rfl, rfl⟩
/-- {k: v for ..} -/
def CF.dcn (t : Bool) (l : Cn) (ck cv : CE) : CF where
  chk sc x := match x with | .DictComp kx vx gens scope _ => l.chk sc gens scope && (ck.bor.isNone && (cv.bor.isNone && (ck.chk (inner sc scope) kx && cv.chk (inner sc scope) vx))) | _ => false
  req r := l.req r ∧ ck.req r ∧ cv.req r
  pur := false
  ev := l.ev (emptyD t) (dctLeaf ck cv)
  pok h := by cases h
  sound sc X x W hc k q tk := by
    split at hc
    · rename_i kx vx gens scope pos
      obtain ⟨h1, h⟩ := and3 hc
      obtain ⟨h2, h⟩ := and3 h
      obtain ⟨h3, h⟩ := and3 h
      obtain ⟨h4, h5⟩ := and3 h
      have hb : ck.bor = none := by simpa using h2
      have hb2 : cv.bor = none := by simpa using h3
      cases gens with
      | nil => cases h1
      | cons c cs =>
        obtain ⟨c1, c2, c3, c4⟩ := c
        obtain ⟨p1, p2, p3, p4, p5, p6, p7, p8, p9⟩ := l.parts h1 k q.1 tk
        have pk : ∀ (s : Shared) (H : Hp) (Cl : Addr) (cl : List (Str × Addr)) (fp : List Addr), PE (X.blk s H scope (compEnvC scope cl Cl X.env) fp) kx (tE (inner sc scope) X.K none ck.ev fun _ _ _ _ => False) := fun s H Cl cl fp => by
          have := ck.sound _ _ _ (fun _ _ _ _ => False) h4 (p7 s H Cl cl fp) q.2.1 takes0
          rw [hb] at this
          exact this
        have pv : ∀ (s : Shared) (H : Hp) (Cl : Addr) (cl : List (Str × Addr)) (fp : List Addr), PE (X.blk s H scope (compEnvC scope cl Cl X.env) fp) vx (tE (inner sc scope) X.K none cv.ev fun _ _ _ _ => False) := fun s H Cl cl fp => by
          have := cv.sound _ _ _ (fun _ _ _ _ => False) h5 (p7 s H Cl cl fp) q.2.2 takes0
          rw [hb2] at this
          exact this
        refine ⟨fun pins s σ H Q I h => ?_⟩
        have h' := Cn.to (l := l) (sc := sc) (K := X.K) (W := W) (d0 := emptyD t) (leaf := dctLeaf ck cv) (scope := scope) (a := Cq.aDct (if t then .dT [] else .dK [])) (tl := fun D0 => tDct (tE (inner sc scope) X.K none ck.ev fun _ _ _ _ => False) (tE (inner sc scope) X.K none cv.ev fun _ _ _ _ => False) D0) p8 p9 (fun G => emptyD_rep t G) (fun ps z => by cases t <;> cases z) (fun fx L D0 hF hL hB => leaf_dct hF hL hB) orep_tbl σ H Q h
        have hfa : firstAsync (⟨c1, c2, c3, c4⟩ :: cs) = false := by
          have p4 : c4 = 0 := p4
          rw [p4]; rfl
        rw [eval_DictComp', hfa]
        refine Cq.lcN_core (a := Cq.aDct (if t then .dT [] else .dK [])) (use := none) (Cq.cmp_dict kx vx (⟨c1, c2, c3, c4⟩ :: cs) scope pos) (acc_dct t) p1 k.nd I p2 p3 p4 p5 p6 (fun s H Cl cl fp D0 => lf_dct (X := X.blk s H scope (compEnvC scope cl Cl X.env) fp) (by have := (p7 s H Cl cl fp).un; omega) (fun _ _ z => z) (pk s H Cl cl fp) (pv s H Cl cl fp)) h' fun D C s' m H' I' q hn f => ⟨m, hn, fun h'' sb => ?_⟩
        obtain ⟨f0, f1, f2, f3, f4, f5⟩ := f
        exact ⟨.ref D, H', I'.turned (t' := s'.toks) (fun b o hb e => (sb.2 b hb).trans e) f0 f1 f3 f4 f5, rfl, q⟩
    · cases hc
/-- name = {k: v for ..} on one line -/
def CS.setDcn (i : Nat) (fz t : Bool) (l : Cn) (ck cv : CE) : CS where
  chk sc x := match x with | .Assign [.Name y py] (.DictComp kx vx gens scope pos) _ => chkSw sc y py pos scope && (chkLoc sc i y && ((if fz then !sc.ow.contains i else sc.ow.contains i && !sc.rp.contains i) && (l.chk sc gens scope && (ck.bor.isNone && (cv.bor.isNone && (ck.chk (inner sc scope) kx && cv.chk (inner sc scope) vx)))))) | _ => false
  req r := l.req r ∧ ck.req r ∧ cv.req r
  ev env := (l.ev (emptyD t) (dctLeaf ck cv) env).bindS fun d e => .nx (e.set i (some d))
  sound sc X x W hc k q tk _ := by
    split at hc
    · rename_i y py kx vx gens scope pos spos
      obtain ⟨h0, h⟩ := and3 hc
      obtain ⟨hL, h⟩ := and3 h
      obtain ⟨hO, h⟩ := and3 h
      obtain ⟨h1, h⟩ := and3 h
      obtain ⟨h2, h⟩ := and3 h
      obtain ⟨h3, h⟩ := and3 h
      obtain ⟨h4, h5⟩ := and3 h
      obtain ⟨s1, sX⟩ := and3 h0
      obtain ⟨s2, s3⟩ := and3 sX
      obtain ⟨g1, g2, g3⟩ := chkLoc_ok hL k
      have hyl : X.env.scope.names.lookup y = some .local := by rw [k.kd y]; exact of_decide_eq_true s1
      have hb : ck.bor = none := by simpa using h2
      have hb2 : cv.bor = none := by simpa using h3
      cases gens with
      | nil => cases h1
      | cons c cs =>
        obtain ⟨c1, c2, c3, c4⟩ := c
        obtain ⟨p1, p2, p3, p4, p5, p6, p7, p8, p9⟩ := l.parts h1 k q.1 tk
        have pk : ∀ (s : Shared) (H : Hp) (Cl : Addr) (cl : List (Str × Addr)) (fp : List Addr), PE (X.blk s H scope (compEnvC scope cl Cl X.env) fp) kx (tE (inner sc scope) X.K none ck.ev fun _ _ _ _ => False) := fun s H Cl cl fp => by
          have := ck.sound _ _ _ (fun _ _ _ _ => False) h4 (p7 s H Cl cl fp) q.2.1 takes0
          rw [hb] at this
          exact this
        have pv : ∀ (s : Shared) (H : Hp) (Cl : Addr) (cl : List (Str × Addr)) (fp : List Addr), PE (X.blk s H scope (compEnvC scope cl Cl X.env) fp) vx (tE (inner sc scope) X.K none cv.ev fun _ _ _ _ => False) := fun s H Cl cl fp => by
          have := cv.sound _ _ _ (fun _ _ _ _ => False) h5 (p7 s H Cl cl fp) q.2.2 takes0
          rw [hb2] at this
          exact this
        have hsw : swapsWith (.DictComp kx vx (⟨c1, c2, c3, c4⟩ :: cs) scope pos) (some (.Name y py)) spos.line X.env = pure true := sw_trueD k.fk hyl s2 (by simpa using s3)
        refine ⟨fun pins s σ H D I h => ?_⟩
        have hz : tF sc X.K (l.ev (emptyD t) (dctLeaf ck cv)) W σ H (fun x H1 => gName i x σ H1 D.nx) := by
          obtain ⟨fx, L, G, env, R, h⟩ := h
          refine ⟨fx, L, G, env, R, ER.post_mono (ER.post_bindS h) (fun d e1 _ hz v H1 G1 R1 s1 fr => ?_) (XWs.at σ)⟩
          cases fz with
          | false =>
            obtain ⟨o1, o2⟩ := and3 hO
            exact hz _ H1 G1 (R1.setF (by simpa using o1) (by simpa using o2) fr) s1
          | true =>
            obtain ⟨G2, R2, s2, r2⟩ := R1.freeze fr
            exact hz _ H1 G2 (R2.set (by simpa using hO) r2) (s1.trans s2)
        have h' := Cn.to (l := l) (sc := sc) (K := X.K) (W := W) (d0 := emptyD t) (leaf := dctLeaf ck cv) (scope := scope) (a := Cq.aDct (if t then .dT [] else .dK [])) (tl := fun D0 => tDct (tE (inner sc scope) X.K none ck.ev fun _ _ _ _ => False) (tE (inner sc scope) X.K none cv.ev fun _ _ _ _ => False) D0) p8 p9 (fun G => emptyD_rep t G) (fun ps z => by cases t <;> cases z) (fun fx L D0 hF hL hB => leaf_dct hF hL hB) orep_tbl σ H _ hz
        have hfa : firstAsync (⟨c1, c2, c3, c4⟩ :: cs) = false := by
          have p4 : c4 = 0 := p4
          rw [p4]; rfl
        rw [exec_Assign_Name_used _ _ _ _ hsw]
        refine wpAny_bind (wpAny_standAt (wpAny_bind ?_))
        show wpAny _ X.A (do let _ ← comprehension (.DictComp kx vx (⟨c1, c2, c3, c4⟩ :: cs) scope pos) scope X.env (firstIterPos (⟨c1, c2, c3, c4⟩ :: cs) pos) newDict (firstAsync (⟨c1, c2, c3, c4⟩ :: cs)) (eval c2 X.env) (some (assign (.Name y py) X.env))) _ _ s
        rw [hfa]
        refine wpAny_bind (thn (Cq.lcN_core (a := Cq.aDct (if t then .dT [] else .dK [])) (Qf := fun _ s' => SP X pins D .next s') (Cq.cmp_dict kx vx (⟨c1, c2, c3, c4⟩ :: cs) scope pos) (acc_dct t) p1 k.nd I p2 p3 p4 p5 p6 (fun s H Cl cl fp D0 => lf_dct (X := X.blk s H scope (compEnvC scope cl Cl X.env) fp) (by have := (p7 s H Cl cl fp).un; omega) (fun _ _ z => z) (pk s H Cl cl fp) (pv s H Cl cl fp)) h' fun L C s' m H' I' q hn f => ?_) fun _ s' hq => wpAny_pure (wpAny_pure hq))
        show wpAny _ _ (assign (.Name y py) X.env (.ref L)) _ _ _
        refine wpAny_assign_Name (store_ok2 (v := V.ref L) I' k.nd g1 (.inl hyl) rfl (fun s2 I2 ⟨a, sb, ha⟩ => ?_) (.inr hyl))
        obtain ⟨f0, f1, f2, f3, f4, f5⟩ := f
        have haC : C ≠ a := by
          rcases ha with z | z
          · rw [z]; exact f1
          · exact fun e => f4 y a z e.symm
        refine ⟨m, hn.sameBut sb haC, fun h3 sb3 => ?_⟩
        exact ⟨_, H', I2.turned (t' := s2.toks) (fun b o hb e => (sb3.2 b hb).trans e) f0 f1 f3 f4 f5, q⟩
    · cases hc
@[simp] theorem ev_dcn (t : Bool) (l : Cn) (ck cv : CE) (env : Env) : (CF.dcn t l ck cv).ev env = l.ev (emptyD t) (dctLeaf ck cv) env := rfl
@[simp] theorem ev_setDcn (i : Nat) (fz t : Bool) (l : Cn) (ck cv : CE) (env : Env) : (CS.setDcn i fz t l ck cv).ev env = (l.ev (emptyD t) (dctLeaf ck cv) env).bindS fun d e => .nx (e.set i (some d)) := rfl
end C

set_option maxRecDepth 100000
set_option maxHeartbeats 4000000
namespace C
open PySem L2
section
variable {sc : SC} {K : Fg} {f : Fx} {L : List Addr} {G H : Hp} {σ : St} {env : Env}
/-- a tuple that stands in H may be told of from now on -/
theorem Rel.addT (R : Rel sc K f L G H σ env) {b : Addr} {xs : List V} (hb : H b = some (.tup xs)) : ∃ G', Rel sc K f L G' H σ env ∧ Same G G' ∧ G' b = some (.tup xs) := by
  cases e : G b with
  | none =>
    refine ⟨L2.upd G b (.tup xs), R.grow (Same.refl _) (same_upd e) (fun a u ea => ?_) (R.tab.g.upd fun _ z => by cases z), same_upd e, upd_same⟩
    by_cases h : a = b
    · subst h; rw [upd_same] at ea; cases ea; exact .inr (.inr ⟨⟨xs, rfl⟩, hb⟩)
    · rw [upd_ne h] at ea; exact .inl ea
  | some o =>
    refine ⟨G, R, Same.refl _, ?_⟩
    rcases R.sub b o e with ⟨_, z⟩ | ⟨_, ob, z⟩
    · rw [hb] at z; cases z; exact e
    · rw [hb] at z; cases z
/-- the key of a dict as data -/
def keyB : Key → D
  | .inl i => .int i
  | .inr x => .str x
theorem keyB_rep (K : Fg) (G : Hp) (k : Key) : Rep K G (keyB k) (kV k) := by cases k <;> rfl
theorem keysB_rep (K : Fg) (G : Hp) : ∀ ks : List Key, Reps K G (ks.map keyB) (ks.map kV)
  | [] => rfl
  | k :: r => ⟨kV k, r.map kV, rfl, keyB_rep K G k, keysB_rep K G r⟩
def tkB (ks : List Key) : D := .tup (ks.map keyB)
theorem Rel.addKs (R : Rel sc K f L G H σ env) : ∀ {l : List (List Key × D)} {kvs : List (List Key × V)} {bs : List Addr}, RepT K G l kvs → IsKeys H kvs bs → ∃ G', Rel sc K f L G' H σ env ∧ Same G G' ∧ Reps K G' (l.map fun p => tkB p.1) (bs.map V.ref) := by
  intro l
  induction l generalizing G with
  | nil =>
    intro kvs bs h1 h2
    have h1 : kvs = [] := h1
    subst h1
    cases h2
    exact ⟨G, R, Same.refl _, rfl⟩
  | cons p l ih =>
    intro kvs bs h1 h2
    obtain ⟨k, d⟩ := p
    obtain ⟨x, r, rfl, r1, r2⟩ := h1
    cases h2 with
    | cons hb ht =>
      obtain ⟨G1, R1, s1, e1⟩ := R.addT hb
      obtain ⟨G2, R2, s2, e2⟩ := ih R1 (RepT.mono (Le.of_same s1) _ _ r2) ht
      refine ⟨G2, R2, s1.trans s2, _, _, rfl, ⟨_, _, rfl, .inl (s2 _ _ e1), keysB_rep K G2 k⟩, e2⟩
end
theorem VW.dTr {K : Fg} {G H : Hp} {v : V} {l : List (List Key × D)} (h : VW K G H (.dT l) v) : ∃ a xs, v = .ref a ∧ Rd H a (.dT xs) ∧ RepT K G l xs := h.dT
theorem RepT.len {K : Fg} {G : Hp} : ∀ {l : List (List Key × D)} {xs : List (List Key × V)}, RepT K G l xs → l.length = xs.length
  | [], xs, h => by cases h; rfl
  | (k, d) :: l, xs, h => by
    obtain ⟨x, r, rfl, _, h2⟩ := h
    simp [RepT.len h2]
theorem RepK.len {K : Fg} {G : Hp} : ∀ {l : List (Key × D)} {xs : List (Key × V)}, RepK K G l xs → l.length = xs.length
  | [], xs, h => by cases h; rfl
  | (k, d) :: l, xs, h => by
    obtain ⟨x, r, rfl, _, h2⟩ := h
    simp [RepK.len h2]
theorem RepK.keys {K : Fg} {G : Hp} : ∀ {l : List (Key × D)} {xs : List (Key × V)}, RepK K G l xs → Reps K G (l.map fun p => keyB p.1) (xs.map fun p => kV p.1)
  | [], xs, h => by cases h; rfl
  | (k, d) :: l, xs, h => by
    obtain ⟨x, r, rfl, _, h2⟩ := h
    exact ⟨_, _, rfl, keyB_rep K G k, RepK.keys h2⟩
/-! ### list(d) -/
def listDD : D → Option D
  | .dK l => some (.lst (l.map fun p => keyB p.1))
  | .dT l => some (.lst (l.map fun p => tkB p.1))
  | _ => none
theorem call_list_dd {X : Cx} (hc : X.calm = true) : CallR X (.type "list") (fun xs H Q => ∃ d, xs = [V.ref d] ∧ ((∃ kvs, Rd H d (.dT kvs) ∧ ∀ p bs, H p = none → IsKeys H kvs bs → Q (.ref p) (L2.upd H p (.lst (bs.map V.ref)))) ∨
    (∃ kvs, Rd H d (.dK kvs) ∧ ∀ p, H p = none → Q (.ref p) (L2.upd H p (.lst (kvs.map fun kv => kV kv.1)))))) := by
  intro pins s σ H xs us Q I r h
  obtain ⟨d, rfl, ⟨kvs, h1, h2⟩ | ⟨kvs, h1, h2⟩⟩ := h
  · exact call_list_dT hc pins s σ H _ us Q I r ⟨d, kvs, rfl, h1, h2⟩
  · exact call_listD hc pins s σ H _ us Q I r ⟨d, kvs, rfl, h1, h2⟩
def CF.listd (a : CE) : CF where
  chk sc e := match e with | .Call (.Name y _) [o] [] _ => sc.calm && (decide (y = "list") && (chkGl sc "list" && (notStar o && a.chk sc o))) | _ => false
  req z := z.mg "list" = none ∧ a.req z
  pur := false
  ev env := (a.ev env).bind fun x e1 => optE (listDD x) e1
  pok h := by cases h
  sound sc X e W hc k q tk := by
    split at hc
    · rename_i y p o pos
      obtain ⟨h0, h⟩ := and3 hc
      obtain ⟨h1, h⟩ := and3 h
      obtain ⟨h2, h⟩ := and3 h
      obtain ⟨h3, h5⟩ := and3 h
      have ey := of_decide_eq_true h1
      subst ey
      refine (pe_callTy (call_list_dd (k.calm.trans h0)) (chkGl_ok h2 k) q.1 (by first | exact PyProof.Rows.boot_list | rfl) (pa_cons (a.sound sc X _ W h5 k q.2 tk) pa_nil (notStar_ok h3)) (by decide) (by decide) (notStar_ok h3) (nostar_any rfl)).imp fun σ H Q h => ?_
      obtain ⟨fx, L, G, env, R, h⟩ := h
      refine ⟨fx, L, G, env, R, ER.post_mono (ER.post_bind h) (fun d e1 _ h v H1 G1 R1 s1 v1 => ?_) fun _ _ _ h => h⟩
      obtain ⟨d', ef, h⟩ := optE_post h
      have vw := R1.vw v1
      cases d with
      | dT l =>
        cases ef
        obtain ⟨ad, ys, rfl, hs, rp⟩ := vw.dT
        refine ⟨ad, rfl, .inl ⟨ys, hs, fun w bs hw hk => ?_⟩⟩
        obtain ⟨G2, R2, s2, r2⟩ := R1.addKs rp hk
        obtain ⟨R3, fr⟩ := R2.fresh (o := .lst (bs.map V.ref)) (d := .lst (l.map fun p => tkB p.1)) hw ⟨_, rfl, r2⟩
        exact h (.ref w) _ _ R3 (s1.trans s2) fr
      | dK l =>
        cases ef
        obtain ⟨ad, ys, rfl, hs, rp⟩ := vw.dK
        refine ⟨ad, rfl, .inr ⟨ys, hs, fun w hw => ?_⟩⟩
        obtain ⟨R3, fr⟩ := R1.fresh (o := .lst (ys.map fun kv => kV kv.1)) (d := .lst (l.map fun p => keyB p.1)) hw ⟨_, rfl, rp.keys⟩
        exact h (.ref w) _ _ R3 s1 fr
      | _ => cases ef
    · cases hc
@[simp] theorem ev_listd (a : CE) (env : Env) : (CF.listd a).ev env = (a.ev env).bind fun x e1 => optE (listDD x) e1 := rfl
/-! ### len(d) -/
theorem call_len_dTR {X : Cx} : CallR X (.builtin "len") (fun xs H Q => ∃ (p : Addr) (kvs : List (List Key × V)), xs = [.ref p] ∧ Rd H p (.dT kvs) ∧ Q (.int ((kvs.length : Nat) : Int)) H) := by
  intro pins s σ H xs us Q I r h
  obtain ⟨p, kvs, rfl, hp, q⟩ := h
  obtain ⟨u, rfl, rx⟩ := vals1 r
  obtain rfl : u = .ref p := rx
  obtain ⟨z, hd, ys, rel, dd⟩ := dt_rd I.hok hp
  have hl : kvs.length = ys.length := Paired.length rel
  refine call_len_dictH hd dd (by rw [← hl]; rw [sizeLine_eq] at z; omega) ?_
  rw [← hl]
  exact ⟨.int ((kvs.length : Nat) : Int), H, I.tok _, ⟨_, rfl⟩, q⟩
def bLenD : Bf where
  x := "len"
  v := .fn "len"
  f ds := match ds with | [.dK l] => some (.int l.length) | [.dT l] => some (.int l.length) | _ => none
  bx := PySem.boot_len
  nx := ⟨by decide, by decide⟩
  ok X _ pins s σ H xs us Q I r q0 := by
    obtain ⟨G, ds, d, le, p, e, q⟩ := rC_some q0
    clear q0
    split at e
    · cases e
      obtain ⟨x, rfl, v1⟩ := pair1 p
      obtain ⟨ad, ys, rfl, hs, rp⟩ := v1.dK
      obtain ⟨u, rfl, rx⟩ := vals1 r
      obtain rfl : u = .ref ad := rx
      rw [rp.len] at q
      exact d_len I hs fun t s' I' => ⟨.int ((ys.length : Nat) : Int), H, I', ⟨_, rfl⟩, q _ H G (Nw.refl _ _) rfl⟩
    · cases e
      obtain ⟨x, rfl, v1⟩ := pair1 p
      obtain ⟨ad, ys, rfl, hs, rp⟩ := v1.dT
      rw [rp.len] at q
      exact call_len_dTR pins s σ H _ us Q I r ⟨ad, ys, rfl, hs, q _ H G (Nw.refl _ _) rfl⟩
    · cases e
@[simp] theorem bLenD_K (l : List (Key × D)) : bLenD.f [.dK l] = some (.int l.length) := rfl
@[simp] theorem bLenD_T (l : List (List Key × D)) : bLenD.f [.dT l] = some (.int l.length) := rfl
/-! ### l.count(x), x in l, deep -/
def lstCountF : D → List D → Option D
  | .lst l, [y] => match datsOf l, datOf y with
    | some xs, some d => if PyData.plainAll xs && (d.plain && decide (d.depth ≤ 50)) then some (.int ((xs.countP fun z => PyData.eqv z d : Nat) : Int)) else none
    | _, _ => none
  | _, _ => none
def mLstCount : Bm where
  name := "count"
  T := "list"
  id := "list.count"
  f := lstCountF
  ty := isLstD
  pa := PySem.F.plainAttrs_list
  slot := PySem.F.slot_list_count
  hty := PySem.F.type_list_count
  tyOk := tyLst
  ok X hc hu W tk pins s σ H x xs v us Q I rx rs h := by
    obtain ⟨G, d, ds, r, le, v1, v2, e, q⟩ := rMv_some h
    unfold lstCountF at e
    split at e
    · rename_i l y
      split at e
      · rename_i zs dy e1 e2
        split at e
        · rename_i hb
          cases e
          obtain ⟨b1, hb⟩ := and3 hb
          obtain ⟨b2, b3⟩ := and3 hb
          obtain ⟨z, rfl, vz⟩ := pair1 v2
          obtain ⟨a, ys, rfl, h1, h2⟩ := v1.lst
          cases rx
          obtain ⟨uz, rfl, rz⟩ := vals1 rs
          obtain ⟨its, rv, hl, hz'⟩ := I.list (SqL.of h1)
          obtain ⟨as, rd⟩ := Dp.readsAll I zs ys its (Reps.dp le l ys zs h2 e1) rv
          obtain ⟨bs, rd2⟩ := Dp.reads I dy z uz (vz.dp e2) rz
          have b3 := of_decide_eq_true b3
          refine PySem.SeqAt.count_list_data (vs := its.toArray) hl.isList (by simpa using rd) rd2 b1 b2 (by omega) ?_
          exact ⟨.int _, H, I.tok _, ⟨_, rfl⟩, q _ H G (Nw.refl _ _) rfl⟩
        · cases e
      · cases e
    · cases e
/-- x in l, l a list of plain data -/
def inDF (x y : D) : Option Bool := match y with
  | .lst l => match datOf x, datsOf l with
    | some d, some ds => if SeqAt.shaped d && SeqAt.shaped (.list ds) then some (ds.any fun z => PyData.eqv z d) else none
    | _, _ => none
  | _ => none
theorem inDF_ok {X : Cx} (hu : X.A.units + 100 < cLine) {x y : V} {G H : Hp} {dx dy : D} {b : Bool} (v1 : VW X.K G H dx x) (v2 : VW X.K G H dy y) (e : inDF dx dy = some b) : ∃ d ds, Dp X.K H x d ∧ Dp X.K H y (.list ds) ∧ SeqAt.shaped d = true ∧ SeqAt.shaped (.list ds) = true ∧ b = ds.any fun z => PyData.eqv z d := by
  unfold inDF at e
  split at e
  · rename_i l
    split at e
    · rename_i d ds e1 e2
      split at e
      · rename_i hb
        obtain ⟨b1, b2⟩ := and3 hb
        cases e
        exact ⟨d, ds, v1.dp e1, v2.dp (by show (datsOf l).map PyData.list = _; rw [e2]; rfl), b1, b2, rfl⟩
      · cases e
    · cases e
  · cases e
def cInD : Cmp .In := ⟨inDF, fun X hu pins s σ H x y v u Q I rx ry h => by
  obtain ⟨G, dx, dy, b, v1, v2, e, q⟩ := rBb_some h
  obtain ⟨d, ds, h1, h2, h3, h4, rfl⟩ := inDF_ok hu v1 v2 e
  exact op_inD (by omega) pins s σ H x y v u Q I rx ry ⟨d, ds, h1, h2, h3, h4, q⟩⟩
def cNotInD : Cmp .NotIn := ⟨fun x y => (inDF x y).map (!·), fun X hu pins s σ H x y v u Q I rx ry h => by
  obtain ⟨G, dx, dy, b, v1, v2, e, q⟩ := rBb_some h
  obtain ⟨c, ec, rfl⟩ := Option.map_eq_some_iff.mp e
  obtain ⟨d, ds, h1, h2, h3, h4, rfl⟩ := inDF_ok hu v1 v2 ec
  exact op_notInD (by omega) pins s σ H x y v u Q I rx ry ⟨d, ds, h1, h2, h3, h4, q⟩⟩
end C

set_option maxRecDepth 100000
set_option maxHeartbeats 4000000
namespace C
open PySem L2
/-! ### f() -/
def chkCall0 (x : Str) (n : Nat) (dds : List D) (sc : SC) (e : Expr) : Bool := match e with
  | .Call (.Name y _) [] [] _ => decide (y = x) && (chkGl sc x && (!(x == ("__debug__" : Str)) && decide (dds.length = n)))
  | _ => false
theorem call0_pe {sc : SC} {X : Cx} {e : Expr} {x : Str} {n : Nat} {fr : Bool} {dds : List D} {F : List D → FR} {W : WX} (hc : chkCall0 x n dds sc e = true) (k : XOk sc X) (q : FnRq (rq X) x n [] fr dds F) (tk : Takes X W) :
    PE X e (fun σ H Q => ∃ f L G env, Rel sc X.K f L G H σ env ∧ (evCall F dds [] [] env).post (fun d env' => ∀ v H' G', Rel sc X.K f L G' H' σ env' → Same G G' → (if fr = true then FrRel sc X.K f L G' H' σ env' d v else Rep X.K G' d v) → Q v H') (XW sc X.K f L G σ W)) := by
  unfold chkCall0 at hc
  split at hc
  · rename_i y p pos
    obtain ⟨h1, h⟩ := and3 hc
    obtain ⟨h2, h⟩ := and3 h
    obtain ⟨h3, h4⟩ := and3 h
    have ey := of_decide_eq_true h1
    subst ey
    obtain ⟨kk, f, fd, ps, dvs, dsv, Fk, hr, hm, hk, hb, hv, hd⟩ := q
    refine (pe_call0SD (E := WE W) Fk hr (chkGl_ok h2 k) hm hk hb hv (fun σ => passAt tk σ) (by simpa using h3)).imp fun σ H Q h => ?_
    obtain ⟨fx, L, G, env, R, h⟩ := h
    exact call_to (sl := []) (ds := []) (vs := []) R rfl (by simp [slR]) hd (by simpa using of_decide_eq_true h4) (Same.refl _) h
  · cases hc
def CE.call0 (x : Str) (n : Nat) (dds : List D) (F : List D → FR) : CE where
  chk := chkCall0 x n dds
  req z := FnRq z x n [] false dds F
  bor := none
  pur := false
  ev env := evCall F dds [] [] env
  pok h := by cases h
  bok i h := by cases h
  sound sc X e W hc k q tk := (call0_pe hc k q tk).imp fun σ H Q h => h
def CF.call0 (x : Str) (n : Nat) (dds : List D) (F : List D → FR) : CF where
  chk := chkCall0 x n dds
  req z := FnRq z x n [] true dds F
  pur := false
  ev env := evCall F dds [] [] env
  pok h := by cases h
  sound sc X e W hc k q tk := (call0_pe hc k q tk).imp fun σ H Q h => h
@[simp] theorem ev_call0 (x : Str) (n : Nat) (dds : List D) (F : List D → FR) (env : Env) : (CE.call0 x n dds F).ev env = evCall F dds [] [] env := rfl
@[simp] theorem ev_call0F (x : Str) (n : Nat) (dds : List D) (F : List D → FR) (env : Env) : (CF.call0 x n dds F).ev env = evCall F dds [] [] env := rfl
end C

set_option maxRecDepth 100000
set_option maxHeartbeats 4000000
namespace C
open PySem L2
/-! ### the head's facts, looked at off a tree -/
noncomputable def obsT (n : Nat) (fa : List He.Fa) (ts : List He.Tab) (tf : List He.Defn) (ex : Fg → Bool) (gn : List DefG) (s : Shared) : Option AlC :=
  (HandSHeadRun.putAll s.heap.objs.toList .nil 0).map fun r => obsC n fa ts tf ex gn (HandSHeadRun.getT ⟨r.1, r.2, s.heap.life, s.gens, s.drawn, s.toks, s.os⟩)
theorem obsT_eq {n : Nat} {fa : List He.Fa} {ts : List He.Tab} {tf : List He.Defn} {ex : Fg → Bool} {gn : List DefG} {s : Shared} {x : AlC} (h : obsT n fa ts tf ex gn s = some x) : (hookC n fa ts tf ex gn).obs s = x := by
  unfold obsT at h
  obtain ⟨r, h1, h2⟩ := Option.map_eq_some_iff.mp h
  rw [← h2]
  refine (obsC_eq fun a => ?_).symm
  rw [HandSHeadRun.getT_eq]
  show (PySem.W.absHeap r.1 r.2 s.heap.life).get? a = _
  rw [HandSHeadRun.putAll_heap (h := s.heap) h1]
noncomputable def hookT (n : Nat) (fa : List He.Fa) (ts : List He.Tab) (tf : List He.Defn) (ex : Fg → Bool) (gn : List DefG) : PySem.W.Hook where
  α := Option AlC
  obs := obsT n fa ts tf ex gn
  val := fun w => some ((hookC n fa ts tf ex gn).val w)
  says := (hookC n fa ts tf ex gn).says
  of := fun s w e => (hookC n fa ts tf ex gn).of s w (obsT_eq e)
  keeps := (hookC n fa ts tf ex gn).keeps
end C

set_option maxRecDepth 100000
set_option maxHeartbeats 4000000
namespace C
open PySem L2
/-! ### a comprehension over an owned list, by its indexes -/
def lcI (g : D → Env → Option Env) (t : Env → TR) (e : Env → ER) (vs : List Nat) (q : Nat) : Nat → Nat → List D → Env → ER
  | 0, _, _, _ => .bad
  | n + 1, k, acc, env => match env[q]? with
    | some (some (.lst l)) => (match l[k]? with
      | none => .ok (.lst acc) env
      | some x => match g x env with
        | none => .bad
        | some e1 => match t e1 with
          | .ok true e2 => (match e e2 with
            | .ok y e3 => if acc.length < sizeLine then lcI g t e vs q n (k + 1) (acc ++ [y]) (wipeE e3 vs) else .bad
            | _ => .bad)
          | .ok false e2 => lcI g t e vs q n (k + 1) acc (wipeE e2 vs)
          | _ => .bad)
    | _ => .bad
def evLcI (g : D → Env → Option Env) (t : Env → TR) (e : Env → ER) (vs : List Nat) (q n : Nat) (e0 : Env) : ER := match lcI g t e vs q n 0 [] (wipeE e0 vs) with
  | .ok d e1 => .ok d (backE e0 e1 vs)
  | _ => .bad
theorem lci_to {sc sc' : SC} {K : Fg} {fx : Fx} {L : List Addr} {G1 H1 : Hp} {σ : St} {e0 : Env} {vs slots : List Nat} {g : D → Env → Option Env} {t : Env → TR} {e : Env → ER} {q N : Nat} {a0 : Addr} {Q : VK} {P : D → Env → Prop} {E : EX}
    (hw1 : sc'.ow = sc.ow) (hw2 : sc'.rp = sc.rp) (hv : ∀ i ∈ vs, i ∉ sc.ow) (hs : ∀ i ∈ slots, i ∈ vs)
    (R1 : Rel sc K fx L G1 H1 σ e0) (ho : q ∈ sc.ow) (hσ : σ[q]? = some (some (.ref a0))) (h : (evLcI g t e vs q N e0).post P E)
    (hP : ∀ d env' v H' G', P d env' → Rel sc K fx L G' H' σ env' → Same G1 G' → FrRel sc K fx L G' H' σ env' d v → Q v H') (D0 : Addr) (hD : H1 D0 = none) :
    ∃ W : Nat → Nat → Hp → Prop, (∃ m, W 0 m (L2.upd H1 D0 (.lst []))) ∧ ∀ i m H, W i m H →
      ((Itl K a0).stop i H ∧ Q (.ref D0) H) ∨ ((Itl K a0).go i H ∧ ∃ Nx : Hp → Prop, (∀ H', Nx H' → ∃ m', m' < m ∧ W (i + 1) m' H') ∧ ∀ x H', (Itl K a0).yld i H x H' → (tG sc' K slots g) x (L2.wipe σ vs) H' fun σ2 H2 => L2.wipe σ2 vs = L2.wipe σ vs ∧ (tT sc' K t fun _ _ _ _ => False) σ2 H2 fun b H3 =>
        if b = true then (tE sc' K none e fun _ _ _ _ => False) σ2 H3 fun y H4 => ∃ acc, H4 D0 = some (.lst acc) ∧ acc.length < sizeLine ∧ Nx (L2.upd H4 D0 (.lst (acc ++ [y]))) else Nx H3) := by
  obtain ⟨d, el, eP⟩ : ∃ d, (∃ e1, lcI g t e vs q N 0 [] (wipeE e0 vs) = .ok d e1 ∧ P d (backE e0 e1 vs)) ∧ True := by
    unfold evLcI at h
    cases el : lcI g t e vs q N 0 [] (wipeE e0 vs) with
    | ok d e1 => rw [el] at h; exact ⟨d, ⟨e1, rfl, h⟩, trivial⟩
    | exc _ _ _ => rw [el] at h; exact h.elim
    | bad => rw [el] at h; exact h.elim
  obtain ⟨eF, el, hPd⟩ := el
  have hF : fx.F D0 = none := by
    cases z : fx.F D0 with
    | none => rfl
    | some u => exact absurd hD (R1.frm D0 u z).some
  have hL : D0 ∉ L := fun z => (R1.lk D0 z).1 hD
  have hB := R1.dom D0 hD
  have Rw := R1.wipe vs hv
  obtain ⟨R2, fr⟩ := Rw.fresh (o := .lst []) (d := .lst []) hD ⟨[], rfl, rfl⟩
  obtain ⟨a, o, e1, _, _, ga, _, _, _, na⟩ := fr
  cases e1
  have R3 := R2.guard upd_same ga hF hL na
  refine ⟨fun i m H => ∃ G2 e2 acc accV, Rel sc K (fx.with D0 (.lst accV)) L G2 H (L2.wipe σ vs) e2 ∧ Same G1 G2 ∧ Reps K G2 acc accV ∧ (∀ i ∈ vs, ∀ d, e2[i]? ≠ some (some d)) ∧ lcI g t e vs q m i acc e2 = .ok d eF, ⟨N, G1, wipeE e0 vs, [], [], R3, Same.refl _, rfl, wipeE_no, el⟩, ?_⟩
  rintro i m H ⟨G2, e2, acc, accV, RG, s2, ra, hno, hl⟩
  have hqv : q ∉ vs := fun z => hv q z ho
  cases m with
  | zero => cases hl
  | succ m =>
  unfold lcI at hl
  cases eq : e2[q]? with
  | none => rw [eq] at hl; cases hl
  | some oq =>
  cases oq with
  | none => rw [eq] at hl; cases hl
  | some dq =>
  cases dq with
  | lst l =>
   simp only [eq] at hl
   obtain ⟨b, u, k1, k2, k3, _⟩ := RG.own q _ ho eq
   rw [wipe_out hqv, hσ] at k1
   cases k1
   obtain ⟨xs, rfl, rr⟩ := k3
   have hx : SqL K H a0 xs := SqL.of k2
   cases ei : l[i]? with
   | none =>
    have hle : l.length ≤ i := List.getElem?_eq_none_iff.mp ei
    simp only [ei] at hl
    cases hl
    obtain ⟨Ru, hH, gD, nD⟩ := RG.unguard hF hL hB (by rintro ⟨_, z⟩; cases z)
    refine .inl ⟨⟨xs, hx, by rw [← rr.length]; exact hle⟩, hP _ _ _ H G2 hPd (R1.back Ru s2 hv hno) s2 ⟨D0, .lst accV, rfl, hH, ⟨accV, rfl, ra⟩, gD, hF, hL, hB, fun j d' hj ej sj => ?_⟩⟩
    rcases backE_get ej with ⟨h1, _⟩ | ⟨h1, h2⟩ | ⟨h1, _⟩
    · exact hv j h1 hj
    · exact nD j d' hj h2 (by rw [wipe_out h1]; exact sj)
    · exact hv j h1 hj
   | some x0 =>
    simp only [ei] at hl
    obtain ⟨xv, ex, rx0⟩ := rr.at ei
    refine .inr ⟨⟨xs, xv, hx, ex⟩, fun H' => ∃ G3 e3 acc' accV', Rel sc K (fx.with D0 (.lst accV')) L G3 H' (L2.wipe σ vs) e3 ∧ Same G1 G3 ∧ Reps K G3 acc' accV' ∧ (∀ i ∈ vs, ∀ d, e3[i]? ≠ some (some d)) ∧ lcI g t e vs q m (i + 1) acc' e3 = .ok d eF, fun H' z => ⟨m, by omega, z⟩, fun x H3 y => ?_⟩
    obtain ⟨rfl, y⟩ := y
    have ey := y xs hx
    rw [ex] at ey
    cases ey
    have nw : Nw G2 G2 H3 H3 := Nw.refl _ _
    have rx : Rep K G2 x0 xv := rx0
    have RG3 := RG.grow nw.1 nw.2.1 nw.2.2.1 (nw.2.2.2 RG.tab.g)
    refine ⟨_, L, G2, e2, x0, RG3.of_sc hw1 hw2, rx, ?_⟩
    cases eg : g x0 e2 with
    | none => rw [eg] at hl; cases hl
    | some e4 =>
      simp only [eg] at hl
      intro σ2 R4 w4
      have ww := w4 vs hs
      rw [wipe_idem] at ww
      refine ⟨ww, _, L, G2, e4, R4, ?_⟩
      cases et : t e4 with
      | bad => rw [et] at hl; cases hl
      | exc _ _ _ => rw [et] at hl; cases hl
      | ok b e5 =>
        intro H5 G5 R5 s5
        cases b with
        | false =>
          rw [et] at hl
          refine iteF ⟨G5, wipeE e5 vs, acc, accV, ?_, (s2.trans nw.2.1).trans s5, Reps.mono (Le.of_same (nw.2.1.trans s5)) _ _ ra, wipeE_no, hl⟩
          have := (R5.of_sc (sc' := sc) hw1.symm hw2.symm).wipe vs hv
          rw [ww] at this
          exact this
        | true =>
          rw [et] at hl
          refine iteT ⟨_, L, G5, e5, R5, ?_⟩
          cases ee : e e5 with
          | bad => simp only [ee] at hl; cases hl
          | exc _ _ _ => simp only [ee] at hl; cases hl
          | ok z e6 =>
            simp only [ee] at hl
            intro zv H6 G6 R6 s6 rz
            have Rb := (R6.of_sc (sc' := sc) hw1.symm hw2.symm).wipe vs hv
            rw [ww] at Rb
            obtain ⟨Ru, hH, gD, nD⟩ := Rb.unguard hF hL hB (by rintro ⟨_, z⟩; cases z)
            have ra6 := Reps.mono (Le.of_same ((nw.2.1.trans s5).trans s6)) _ _ ra
            by_cases hz : acc.length < sizeLine
            · rw [if_pos hz] at hl
              refine ⟨accV, hH, by rw [← ra6.length]; exact hz, G6, wipeE e6 vs, acc ++ [z], accV ++ [zv], ?_, ((s2.trans nw.2.1).trans s5).trans s6, ra6.append ⟨zv, [], rfl, rz, rfl⟩, wipeE_no, hl⟩
              have Rc := Ru.chg (H' := L2.upd H6 D0 (.lst (accV ++ [zv]))) [D0] (fun b u eb nb _ => by rw [upd_ne fun q => nb (by simp [q])]; exact eb) (tabs_keep Ru.tab.tabs fun b u eb np => by
                have : b ≠ D0 := fun q => np (by rw [q, hH] at eb; cases eb; exact ⟨(fun _ e => by cases e), (fun _ e => by cases e)⟩)
                rw [upd_ne this]; exact eb) (fun b eb => by
                by_cases q : b = D0
                · rw [q, upd_same] at eb; cases eb
                · rw [upd_ne q] at eb; exact eb) (Same.refl _) (fun b u eb => .inl eb) (fun b hb => by
                have : b = D0 := by simpa using hb
                subst this
                exact ⟨gD, hF, hL, by rw [upd_same]; simp⟩) Ru.tab.g rfl fun j dj ej => .inl ⟨ej, fun hj b sb hb => by
                  have : b = D0 := by simpa using hb
                  subst this
                  exact nD j dj hj ej sb⟩
              exact Rc.guard upd_same gD hF hL nD
            · rw [if_neg hz] at hl; cases hl
  | _ => simp only [eq] at hl; cases hl
structure Lci where
  vs : List Nat
  g : CG
  q : Nat
  n : Nat
  t : Option CT
  e : CE
def Lci.chk (l : Lci) (sc : SC) (elt tg iter : Expr) (ifs : List Expr) (scope : Scope) : Bool :=
  sc.calm && (notSet iter && (l.e.bor.isNone && ((l.vs.all fun i => !sc.ow.contains i) && ((l.g.slots.all fun i => l.vs.contains i) && (blkB sc.N sc.kd scope (ownOf sc.N l.vs) &&
    ((CE.bvar l.q).chk sc iter && (l.g.chk (inner sc scope) tg && (chkTs l.t (inner sc scope) ifs && l.e.chk (inner sc scope) elt))))))))
def Lci.req (l : Lci) (r : Rq) : Prop := reqTs l.t r ∧ l.e.req r
def Lci.ev (l : Lci) (env : Env) : ER := evLcI l.g.asg (tsE l.t) l.e.ev l.vs l.q l.n env
def tIo (sc : SC) (K : Fg) (q : Nat) : TI := fun σ H R => ∃ f L G env l, Rel sc K f L G H σ env ∧ q ∈ sc.ow ∧ env[q]? = some (some (.lst l)) ∧ ∀ a H' G', Rel sc K f L G' H' σ env → Same G G' → σ[q]? = some (some (.ref a)) → R (Itl K a) H'
theorem pi_own {sc : SC} {X : Cx} {q : Nat} {tg iter : Expr} (hc : (CE.bvar q).chk sc iter = true) (k : XOk sc X) : PI X tg iter (tIo sc X.K q) := by
  have hq : q ∈ sc.ow := by
    cases iter with
    | Name x pos => exact by simpa using (and3 hc).2
    | _ => cases hc
  refine (pi_seq ((CE.bvar q).sound sc X iter (fun _ _ _ _ => False) hc k trivial takes0)).imp fun σ H R0 h => ?_
  obtain ⟨f, L, G, env, l, R, _, e, h⟩ := h
  refine ⟨f, L, G, env, R, ?_⟩
  have ev : (CE.bvar q).ev env = .ok (.lst l) env := by
    show evVar q env = _
    unfold evVar
    rw [e]
  rw [ev]
  intro v H1 G1 R1 s1 r1
  obtain ⟨_, _, h3⟩ := r1
  obtain ⟨a, o, k1, k2, k3, _⟩ := R1.own q _ hq e
  rw [k1] at h3
  cases h3
  obtain ⟨xs, rfl, rr⟩ := k3
  exact ⟨_, .inl ⟨a, xs, rfl, SqL.of k2, rfl⟩, h a H1 G1 R1 s1 k1⟩
theorem Lci.parts {l : Lci} {sc : SC} {X : Cx} {elt tg iter : Expr} {ifs : List Expr} {scope : Scope} (hc : l.chk sc elt tg iter ifs scope = true) (k : XOk sc X) (q : l.req (rq X)) :
    X.calm = true ∧ PI X tg iter (tIo sc X.K l.q) ∧ BlkOk X.N X.env.scope scope (ownOf sc.N l.vs) ∧
    (∀ (s : Shared) (H : Hp) (Cl : Addr) (cl : List (Str × Addr)) (fp : List Addr), PG (X.blk s H scope (compEnvC scope cl Cl X.env) fp) tg (tG (inner sc scope) X.K l.g.slots l.g.asg)) ∧
    (∀ (s : Shared) (H : Hp) (Cl : Addr) (cl : List (Str × Addr)) (fp : List Addr), PTs (X.blk s H scope (compEnvC scope cl Cl X.env) fp) ifs (tT (inner sc scope) X.K (tsE l.t) fun _ _ _ _ => False)) ∧
    (∀ (s : Shared) (H : Hp) (Cl : Addr) (cl : List (Str × Addr)) (fp : List Addr), PE (X.blk s H scope (compEnvC scope cl Cl X.env) fp) elt (tE (inner sc scope) X.K none l.e.ev fun _ _ _ _ => False)) ∧
    (∀ x, foldedSetIterable iter X.env x = pure x) ∧ (∀ i ∈ l.vs, i ∉ sc.ow) ∧ (∀ i ∈ l.g.slots, i ∈ l.vs) ∧ l.q ∈ sc.ow := by
  unfold Lci.chk at hc
  obtain ⟨h1, h⟩ := and3 hc
  obtain ⟨h2, h⟩ := and3 h
  obtain ⟨h3, h⟩ := and3 h
  obtain ⟨h4, h⟩ := and3 h
  obtain ⟨h5, h⟩ := and3 h
  obtain ⟨h6, h⟩ := and3 h
  obtain ⟨h7, h⟩ := and3 h
  obtain ⟨h8, h⟩ := and3 h
  obtain ⟨h9, h10⟩ := and3 h
  have bk := blkB_ok k h6
  have hb : l.e.bor = none := by simpa using h3
  have xk := fun s H Cl cl fp => inner_ok k bk.kind s H Cl cl fp
  have hq : l.q ∈ sc.ow := by
    cases iter with
    | Name x pos => exact by simpa using (and3 h7).2
    | _ => cases h7
  refine ⟨k.calm.trans h1, pi_own h7 k, bk, fun s H Cl cl fp => l.g.sound _ _ _ h8 (xk s H Cl cl fp), fun s H Cl cl fp => ts_ok h9 (xk s H Cl cl fp) q.1 takes0, fun s H Cl cl fp => ?_, notSet_ok h2, fun i hi => ?_, fun i hi => ?_, hq⟩
  · have := l.e.sound _ _ _ (fun _ _ _ _ => False) h10 (xk s H Cl cl fp) q.2 takes0
    rw [hb] at this
    exact this
  · simpa using List.all_eq_true.mp h4 i hi
  · simpa using List.all_eq_true.mp h5 i hi
theorem evLcI_lst {g : D → Env → Option Env} {t : Env → TR} {e : Env → ER} {vs : List Nat} {q n : Nat} {e0 : Env} {P : D → Env → Prop} {E : EX} (hq : q ∉ vs) (h : (evLcI g t e vs q n e0).post P E) : ∃ l, e0[q]? = some (some (.lst l)) := by
  have key : ∀ d e1, lcI g t e vs q n 0 [] (wipeE e0 vs) = .ok d e1 → ∃ l, e0[q]? = some (some (.lst l)) := fun d e1 h => by
    cases n with
    | zero => cases h
    | succ n =>
      unfold lcI at h
      cases eq : (wipeE e0 vs)[q]? with
      | none => rw [eq] at h; cases h
      | some oq =>
        cases oq with
        | none => rw [eq] at h; cases h
        | some dq =>
          cases dq with
          | lst l => exact ⟨l, (wipeE_get eq).1⟩
          | _ => simp only [eq] at h; cases h
  unfold evLcI at h
  cases el : lcI g t e vs q n 0 [] (wipeE e0 vs) with
  | ok d e1 => exact key d e1 el
  | exc _ _ _ => rw [el] at h; exact h.elim
  | bad => rw [el] at h; exact h.elim
theorem Lci.to {l : Lci} {sc : SC} {K : Fg} {scope : Scope} {W : WX} (hv : ∀ i ∈ l.vs, i ∉ sc.ow) (hs : ∀ i ∈ l.g.slots, i ∈ l.vs) (hq : l.q ∈ sc.ow) (σ : St) (H : Hp) (Q : VK) (h : tF sc K l.ev W σ H Q) :
    tLc (tIo sc K l.q) (tG (inner sc scope) K l.g.slots l.g.asg) (tT (inner sc scope) K (tsE l.t) fun _ _ _ _ => False) (tE (inner sc scope) K none l.e.ev fun _ _ _ _ => False) ((ownOf sc.N l.vs).map (·.2)) σ H Q := by
  rw [ownOf_slots]
  obtain ⟨fx, L, G, env, R, h⟩ := h
  obtain ⟨ls, el⟩ := evLcI_lst (fun z => hv _ z hq) h
  refine ⟨fx, L, G, env, ls, R, hq, el, fun a H1 G1 R1 s1 hσ D0 hD => ?_⟩
  exact lci_to (sc := sc) (sc' := inner sc scope) rfl rfl hv hs R1 hq hσ h (fun d env' v H' G' hP R' s' fr => hP v H' G' R' (s1.trans s') fr) D0 hD
def CF.lci (l : Lci) : CF where
  chk sc e := match e with | .ListComp elt [⟨tg, iter, ifs, 0⟩] scope _ => l.chk sc elt tg iter ifs scope | _ => false
  req := l.req
  pur := false
  ev := l.ev
  pok h := by cases h
  sound sc X e W hc k q tk := by
    split at hc
    · obtain ⟨h1, h2, h3, h4, h5, h6, h7, h8, h9, h10⟩ := l.parts hc k q
      exact (pe_lc h1 k.nd h2 h3 h4 h5 h6 h7).imp fun σ H Q h => l.to h8 h9 h10 σ H Q h
    · cases hc
def CS.setLci (i : Nat) (fz : Bool) (l : Lci) : CS where
  chk sc e := match e with | .Assign [.Name y py] (.ListComp elt [⟨tg, iter, ifs, 0⟩] scope pos) _ => chkSw sc y py pos scope && (chkLoc sc i y && ((if fz then !sc.ow.contains i else sc.ow.contains i && !sc.rp.contains i) && l.chk sc elt tg iter ifs scope)) | _ => false
  req := l.req
  ev env := (l.ev env).bindS fun d e => .nx (e.set i (some d))
  sound sc X e W hc k q tk _ := by
    split at hc
    · rename_i y py elt tg iter ifs scope pos spos
      obtain ⟨h0, h⟩ := and3 hc
      obtain ⟨hL, h⟩ := and3 h
      obtain ⟨hO, hl⟩ := and3 h
      obtain ⟨s1, s⟩ := and3 h0
      obtain ⟨s2, s3⟩ := and3 s
      obtain ⟨g1, g2, g3⟩ := chkLoc_ok hL k
      have hy : X.env.scope.names.lookup y = some .local := by rw [k.kd y]; exact of_decide_eq_true s1
      obtain ⟨h1, h2, h3, h4, h5, h6, h7, h8, h9, h10⟩ := l.parts hl k q
      refine (ps_setLc h1 k.nd g1 hy (sw_true k.fk hy s2 (by simpa using s3)) h2 h3 h4 h5 h6 h7).imp fun D σ H h => ?_
      refine l.to (W := W) h8 h9 h10 σ H _ ?_
      obtain ⟨fx, L, G, env, R, h⟩ := h
      refine ⟨fx, L, G, env, R, ER.post_mono (ER.post_bindS h) (fun d e1 _ hz v H1 G1 R1 s1 fr => ?_) (XWs.at σ)⟩
      cases fz with
      | false =>
        obtain ⟨o1, o2⟩ := and3 hO
        exact hz _ H1 G1 (R1.setF (by simpa using o1) (by simpa using o2) fr) s1
      | true =>
        obtain ⟨G2, R2, s2, r2⟩ := R1.freeze fr
        exact hz _ H1 G2 (R2.set (by simpa using hO) r2) (s1.trans s2)
    · cases hc
@[simp] theorem evF_lci (l : Lci) (env : Env) : (CF.lci l).ev env = l.ev env := rfl
@[simp] theorem ev_setLci (i : Nat) (fz : Bool) (l : Lci) (env : Env) : (CS.setLci i fz l).ev env = (l.ev env).bindS fun d e => .nx (e.set i (some d)) := rfl
theorem lcI_flt {α : Type} {g : D → Env → Option Env} {t : Env → TR} {e : Env → ER} {vs : List Nat} {q : Nat} (φ ψ : α → D) (p : α → Bool) (env : Env) (ds : List α) (hq : env[q]? = some (some (.lst (ds.map φ)))) (h : ∀ x ∈ ds, ∃ e1, g (φ x) env = some e1 ∧ t e1 = .ok (p x) e1 ∧ (p x = true → e e1 = .ok (ψ x) e1) ∧ wipeE e1 vs = env) (hz : ds.length ≤ sizeLine) :
    ∀ (n k : Nat) (acc : List D), k ≤ ds.length → ds.length < n + k → acc.length ≤ k → lcI g t e vs q n k acc env = .ok (.lst (acc ++ ((ds.drop k).filter p).map ψ)) env
  | 0, k, acc, hk, hn, _ => by omega
  | n + 1, k, acc, hk, hn, ha => by
    unfold lcI
    simp only [hq]
    cases ei : ds[k]? with
    | none =>
      have hle : ds.length ≤ k := List.getElem?_eq_none_iff.mp ei
      simp [ei, List.drop_eq_nil_of_le hle]
    | some x =>
      have hlt : k < ds.length := (List.getElem?_eq_some_iff.mp ei).1
      have hx : x ∈ ds := List.mem_of_getElem? ei
      have ed : ds.drop k = x :: ds.drop (k + 1) := by rw [List.drop_eq_getElem_cons hlt, (List.getElem?_eq_some_iff.mp ei).2]
      obtain ⟨e1, h1, h2, h3, h4⟩ := h x hx
      simp only [List.getElem?_map, ei, Option.map_some, h1, h2]
      cases hp : p x with
      | false =>
        show lcI g t e vs q n (k + 1) acc (wipeE e1 vs) = _
        rw [h4, lcI_flt φ ψ p env ds hq h hz n (k + 1) acc (by omega) (by omega) (by omega), ed]
        simp [hp]
      | true =>
        have hl : acc.length < sizeLine := by omega
        simp only [h3 hp, if_pos hl]
        rw [h4, lcI_flt φ ψ p env ds hq h hz n (k + 1) (acc ++ [ψ x]) (by omega) (by omega) (by simp; omega), ed]
        simp [hp]
/-- a comprehension over an owned list that stays as it is -/
theorem lci_flt {α : Type} (φ ψ : α → D) (p : α → Bool) (l : List α) {i q n : Nat} {t : CT} {e : CE} {env : Env} (hq : env[q]? = some (some (.lst (l.map φ)))) (hiq : i ≠ q) (ht : ∀ x ∈ l, t.ev (env.set i (some (φ x))) = .ok (p x) (env.set i (some (φ x)))) (he : ∀ x ∈ l, e.ev (env.set i (some (φ x))) = .ok (ψ x) (env.set i (some (φ x)))) (hi : i < env.length) (hz : l.length ≤ sizeLine) (hn : l.length < n) :
    Lci.ev ⟨[i], CG.name i, q, n, some t, e⟩ env = .ok (.lst ((l.filter p).map ψ)) env := by
  have h := lcI_flt (g := (CG.name i).asg) (t := tsE (some t)) (e := e.ev) (vs := [i]) (q := q) φ ψ p (env.set i none) l (by rw [List.getElem?_set_ne hiq]; exact hq) (fun x hx => ⟨env.set i (some (φ x)), by simp, ht x hx, fun _ => he x hx, by simp [wipeE]⟩) hz n 0 [] (by omega) (by omega) (by simp)
  unfold Lci.ev evLcI
  have hw : wipeE env [i] = env.set i none := rfl
  rw [hw, h]
  simp [backE, hi]
theorem lci_ok {α : Type} (φ ψ : α → D) (l : List α) {i q n : Nat} {e : CE} {env : Env} (hq : env[q]? = some (some (.lst (l.map φ)))) (hiq : i ≠ q) (he : ∀ x ∈ l, e.ev (env.set i (some (φ x))) = .ok (ψ x) (env.set i (some (φ x)))) (hi : i < env.length) (hz : l.length ≤ sizeLine) (hn : l.length < n) :
    Lci.ev ⟨[i], CG.name i, q, n, none, e⟩ env = .ok (.lst (l.map ψ)) env := by
  have h := lcI_flt (g := (CG.name i).asg) (t := tsE none) (e := e.ev) (vs := [i]) (q := q) φ ψ (fun _ => true) (env.set i none) l (by rw [List.getElem?_set_ne hiq]; exact hq) (fun x hx => ⟨env.set i (some (φ x)), by simp, rfl, fun _ => he x hx, by simp [wipeE]⟩) hz n 0 [] (by omega) (by omega) (by simp)
  unfold Lci.ev evLcI
  have hw : wipeE env [i] = env.set i none := rfl
  rw [hw, h]
  have hf : l.filter (fun _ => true) = l := List.filter_eq_self.mpr fun _ _ => rfl
  simp [backE, hi, hf]
end C

set_option maxRecDepth 100000
set_option maxHeartbeats 0
namespace C
open PySem L2
abbrev PP : Program := PySem.Challenge.pw_everycube_k32_pieces_and_kinds
def top (i : Nat) : Stmt := PP.main.body.getD i (.Pass ⟨0, 0, 0, 0⟩)
def clsBd : Stmt → List Stmt
  | .ClassDef _ _ _ b _ _ _ _ _ _ _ => b
  | _ => []
def mth (i j : Nat) : Stmt := (clsBd (top i)).getD j (.Pass ⟨0, 0, 0, 0⟩)
/-! _law_cell -/
def d_l_law_cell : DefG := ⟨fun K => ga K "_law_cell", "_law_cell", "_law_cell", defArgs (top 24), defBody (top 24), defScope (top 24), []⟩
abbrev N_l_law_cell : List Str := ["_law_script", "_law_place_here"]
abbrev p_l_law_cell : List Str := ["_law_script", "_law_place_here"]
theorem s_l_law_cell : FnScope N_l_law_cell p_l_law_cell (defScope (top 24)) := ⟨rfl, rfl, rfl, by decide +kernel, rfl, by decide +kernel, by decide +kernel⟩
def b_l_law_cell : CB :=
    (CB.cons (CS.if_ (CT.cmp cLt (CE.var 1) (CE.blt bLen (CM.cons (CE.var 0) CM.nil)))
    (CB.cons (CS.ret (CE.ix (CE.var 0) (CE.var 1)))
    CB.nil)
    CB.nil)
    (CB.cons (CS.ret (CE.int 0))
    CB.nil))
def F_l_law_cell : List D → FR := runF b_l_law_cell 2 [] false
theorem c_l_law_cell : b_l_law_cell.chk (scOf N_l_law_cell (defScope (top 24)) [] [] false none) (defBody (top 24)) = true := by decide +kernel
/-! _law_source -/
def d_l_law_source : DefG := ⟨fun K => ga K "_law_source", "_law_source", "_law_source", defArgs (top 25), defBody (top 25), defScope (top 25), []⟩
abbrev N_l_law_source : List Str := ["_law_cell_here"]
abbrev p_l_law_source : List Str := ["_law_cell_here"]
theorem s_l_law_source : FnScope N_l_law_source p_l_law_source (defScope (top 25)) := ⟨rfl, rfl, rfl, by decide +kernel, rfl, by decide +kernel, by decide +kernel⟩
def b_l_law_source : CB :=
    (CB.cons (CS.if_ (CT.cmp cGe (CE.var 0) (CE.bin oPow (CE.int 10) (CE.int 18)))
    (CB.cons (CS.retF (CF.lst (CA.cons (CE.var 0) (CA.cons (CE.int 1) CA.nil))))
    CB.nil)
    CB.nil)
    (CB.cons (CS.retF (CF.lst (CA.cons (CE.bin oMod (CE.blt bInt (CM.cons (CE.bin oAdd (CE.bin oMul (CE.var 0) (CE.int 16807)) (CE.int 694847539)) CM.nil)) (CE.int 2147483647)) (CA.cons (CE.int 0) CA.nil))))
    CB.nil))
def F_l_law_source : List D → FR := runF b_l_law_source 1 [] true
theorem c_l_law_source : b_l_law_source.chk (scOf N_l_law_source (defScope (top 25)) [] [] true none) (defBody (top 25)) = true := by decide +kernel
/-! _law_draw -/
def d_l_law_draw : DefG := ⟨fun K => ga K "_law_draw", "_law_draw", "_law_draw", defArgs (top 26), defBody (top 26), defScope (top 26), []⟩
abbrev N_l_law_draw : List Str := ["_law_source_here", "_law_limit", "_law_digit"]
abbrev p_l_law_draw : List Str := ["_law_source_here", "_law_limit"]
theorem s_l_law_draw : FnScope N_l_law_draw p_l_law_draw (defScope (top 26)) := ⟨rfl, rfl, rfl, by decide +kernel, rfl, by decide +kernel, by decide +kernel⟩
def b_l_law_draw : CB :=
    (CB.cons (CS.if_ (CT.cmp cEq (CE.ix (CE.bvar 0) (CE.int 1)) (CE.int 1))
    (CB.cons (CS.asg (CG.name 2) (CE.bin oMod (CE.blt bInt (CM.cons (CE.ix (CE.bvar 0) (CE.int 0)) CM.nil)) (CE.var 1)))
    (CB.cons (CS.setIx 0 (CE.int 0) (CE.bin oDiv (CE.ix (CE.bvar 0) (CE.int 0)) (CE.var 1)))
    (CB.cons (CS.ret (CE.var 2))
    CB.nil)))
    CB.nil)
    (CB.cons (CS.setIx 0 (CE.int 0) (CE.bin oMod (CE.blt bInt (CM.cons (CE.bin oAdd (CE.bin oMul (CE.ix (CE.bvar 0) (CE.int 0)) (CE.int 69621)) (CE.int 694847539)) CM.nil)) (CE.int 2147483647)))
    (CB.cons (CS.ret (CE.bin oMod (CE.bin oDiv (CE.blt bInt (CM.cons (CE.bin oMod (CE.bin oPow (CE.ix (CE.bvar 0) (CE.int 0)) (CE.int 5)) (CE.int 2147483647)) CM.nil)) (CE.int 16)) (CE.var 1)))
    CB.nil)))
def F_l_law_draw : List D → FR := runF b_l_law_draw 3 [0] false
theorem c_l_law_draw : b_l_law_draw.chk (scOf N_l_law_draw (defScope (top 26)) [0] [0] false none) (defBody (top 26)) = true := by decide +kernel
/-! _law_places -/
def d_l_law_places : DefG := ⟨fun K => ga K "_law_places", "_law_places", "_law_places", defArgs (top 31), defBody (top 31), defScope (top 31), []⟩
abbrev N_l_law_places : List Str := ["_law_n", "_law_found", "_law_face", "_law_at", "_law_edge", "_law_i", "_law_j", "_law_cell_here"]
abbrev p_l_law_places : List Str := ["_law_n"]
theorem s_l_law_places : FnScope N_l_law_places p_l_law_places (defScope (top 31)) := ⟨rfl, rfl, rfl, by decide +kernel, rfl, by decide +kernel, by decide +kernel⟩
def b_l_law_places : CB :=
    (CB.cons (CS.setF 1 (CF.lst CA.nil))
    (CB.cons (CS.for_ (CG.name 2) (CI.seq (CE.str "BDFLRU"))
    (CB.cons (CS.asg (CG.name 3) (CE.bm mStrFind (CE.str "RLUDFB") (CM.cons (CE.var 2) CM.nil)))
    (CB.cons (CS.asg (CG.name 4) (CE.ite (CT.cmp cEq (CE.bin oMod (CE.var 3) (CE.int 2)) (CE.int 0)) (CE.bin oSub (CE.var 0) (CE.int 1)) (CE.int 0)))
    (CB.cons (CS.for_ (CG.name 5) (CI.range1 (CE.var 0))
    (CB.cons (CS.for_ (CG.name 6) (CI.range1 (CE.var 0))
    (CB.cons (CS.setF 7 (CF.lst (CA.cons (CE.var 5) (CA.cons (CE.var 6) CA.nil))))
    (CB.cons (CS.expr (CE.mo mInsert 7 (CA.cons (CE.bin oDiv (CE.var 3) (CE.int 2)) (CA.cons (CE.var 4) CA.nil))))
    (CB.cons (CS.expr (CE.mo mAppend 1 (CA.cons (CE.tup (CA.cons (CE.var 2) (CA.cons (CE.ix (CE.bvar 7) (CE.int 0)) (CA.cons (CE.ix (CE.bvar 7) (CE.int 1)) (CA.cons (CE.ix (CE.bvar 7) (CE.int 2)) CA.nil))))) CA.nil)))
    CB.nil))))
    CB.nil))
    CB.nil))))
    (CB.cons (CS.ret (CE.ofF (CF.sorted (CE.bvar 1))))
    CB.nil)))
def F_l_law_places : List D → FR := runF b_l_law_places 8 [] false
theorem c_l_law_places : b_l_law_places.chk (scOf N_l_law_places (defScope (top 31)) [1, 7] [] false none) (defBody (top 31)) = true := by decide +kernel
/-! check_size -/
def d_check_size : DefG := ⟨fun K => ga K "check_size", "check_size", "check_size", defArgs (top 7), defBody (top 7), defScope (top 7), []⟩
abbrev N_check_size : List Str := ["n"]
abbrev p_check_size : List Str := ["n"]
theorem s_check_size : FnScope N_check_size p_check_size (defScope (top 7)) := ⟨rfl, rfl, rfl, by decide +kernel, rfl, by decide +kernel, by decide +kernel⟩
def b_check_size : CB :=
    (CB.cons (CS.if_ (CT.cmp cLt (CE.var 0) (CE.int 2))
    (CB.cons (CS.raise_ "InvalidSize" ["n"] (CC.val (CE.var 0) CC.nil) (emptyOk_val _ _))
    CB.nil)
    CB.nil)
    CB.nil)
def F_check_size : List D → FR := runF b_check_size 1 [] false
theorem c_check_size : b_check_size.chk (scOf N_check_size (defScope (top 7)) [] [] false none) (defBody (top 7)) = true := by decide +kernel
/-! depth -/
def d_depth : DefG := ⟨fun K => ga K "depth", "depth", "depth", defArgs (top 8), defBody (top 8), defScope (top 8), []⟩
abbrev N_depth : List Str := ["n", "face", "cell", "x", "y", "z"]
abbrev p_depth : List Str := ["n", "face", "cell"]
theorem s_depth : FnScope N_depth p_depth (defScope (top 8)) := ⟨rfl, rfl, rfl, by decide +kernel, rfl, by decide +kernel, by decide +kernel⟩
def b_depth : CB :=
    (CB.cons (CS.asg (CG.tup [(CG.name 3), (CG.name 4), (CG.name 5)]) (CE.var 2))
    (CB.cons (CS.if_ (CT.cmp cEq (CE.var 1) (CE.str "R"))
    (CB.cons (CS.ret (CE.bin oSub (CE.var 0) (CE.var 3)))
    CB.nil)
    CB.nil)
    (CB.cons (CS.if_ (CT.cmp cEq (CE.var 1) (CE.str "L"))
    (CB.cons (CS.ret (CE.bin oAdd (CE.var 3) (CE.int 1)))
    CB.nil)
    CB.nil)
    (CB.cons (CS.if_ (CT.cmp cEq (CE.var 1) (CE.str "U"))
    (CB.cons (CS.ret (CE.bin oSub (CE.var 0) (CE.var 4)))
    CB.nil)
    CB.nil)
    (CB.cons (CS.if_ (CT.cmp cEq (CE.var 1) (CE.str "D"))
    (CB.cons (CS.ret (CE.bin oAdd (CE.var 4) (CE.int 1)))
    CB.nil)
    CB.nil)
    (CB.cons (CS.ret (CE.ite (CT.cmp cEq (CE.var 1) (CE.str "F")) (CE.bin oSub (CE.var 0) (CE.var 5)) (CE.bin oAdd (CE.var 5) (CE.int 1))))
    CB.nil))))))
def F_depth : List D → FR := runF b_depth 6 [] false
theorem c_depth : b_depth.chk (scOf N_depth (defScope (top 8)) [] [] false none) (defBody (top 8)) = true := by decide +kernel
/-! faces_of -/
def d_faces_of : DefG := ⟨fun K => ga K "faces_of", "faces_of", "faces_of", defArgs (top 18), defBody (top 18), defScope (top 18), []⟩
abbrev N_faces_of : List Str := ["n", "cell", "face"]
abbrev p_faces_of : List Str := ["n", "cell"]
theorem s_faces_of : FnScope N_faces_of p_faces_of (defScope (top 18)) := ⟨rfl, rfl, rfl, by decide +kernel, rfl, by decide +kernel, by decide +kernel⟩
theorem bn_depth_3 {K : Fg} : Bnd K d_depth p_depth [] := Bnd.none rfl (fun _ _ _ _ _ _ us hl => match us, hl with | [_, _, _], _ => rfl)
def b_faces_of : CB :=
    (CB.cons (CS.ret (CE.ofF (CF.lc ⟨[2], (CG.name 2), (CI.seq (CE.gstr "FACES" "RLUDFB")), (some (CT.cmp cEq (CE.call "depth" 3 [] F_depth (CC.val (CE.var 0) (CC.val (CE.var 2) (CC.val (CE.var 1) CC.nil)))) (CE.int 1))), (CE.var 2)⟩)))
    CB.nil)
def F_faces_of : List D → FR := runF b_faces_of 3 [] false
theorem c_faces_of : b_faces_of.chk (scOf N_faces_of (defScope (top 18)) [] [] false none) (defBody (top 18)) = true := by decide +kernel
/-! places -/
def d_places : DefG := ⟨fun K => ga K "places", "places", "places", defArgs (top 19), defBody (top 19), defScope (top 19), []⟩
abbrev N_places : List Str := ["n", "cells", "x", "y", "z", "cell", "face"]
abbrev p_places : List Str := ["n"]
theorem s_places : FnScope N_places p_places (defScope (top 19)) := ⟨rfl, rfl, rfl, by decide +kernel, rfl, by decide +kernel, by decide +kernel⟩
theorem bn_check_size_1 {K : Fg} : Bnd K d_check_size p_check_size [] := Bnd.none rfl (fun _ _ _ _ _ _ us hl => match us, hl with | [_], _ => rfl)
theorem bn_faces_of_2 {K : Fg} : Bnd K d_faces_of p_faces_of [] := Bnd.none rfl (fun _ _ _ _ _ _ us hl => match us, hl with | [_, _], _ => rfl)
def b_places : CB :=
    (CB.cons (CS.expr (CE.call "check_size" 1 [] F_check_size (CC.val (CE.var 0) CC.nil)))
    (CB.cons (CS.if_ (CT.cmp cGt (CE.var 0) (CE.gint "MOST_LISTED" 20))
    (CB.cons (CS.raise_ "TooLarge" ["n"] (CC.val (CE.var 0) CC.nil) (emptyOk_val _ _))
    CB.nil)
    CB.nil)
    (CB.cons (CS.setLcn 1 true ⟨⟨[2], (CG.name 2), (CI.range1 (CE.var 0)), none⟩, [⟨[3], (CG.name 3), (CI.range1 (CE.var 0)), none⟩, ⟨[4], (CG.name 4), (CI.range1 (CE.var 0)), none⟩]⟩ (CE.tup (CA.cons (CE.var 2) (CA.cons (CE.var 3) (CA.cons (CE.var 4) CA.nil)))))
    (CB.cons (CS.retF (CF.sorted (CE.ofF (CF.lcn ⟨⟨[5], (CG.name 5), (CI.seq (CE.var 1)), none⟩, [⟨[6], (CG.name 6), (CI.seq (CE.call "faces_of" 2 [] F_faces_of (CC.val (CE.var 0) (CC.val (CE.var 5) CC.nil)))), none⟩]⟩ (CE.tup (CA.cons (CE.var 6) (CA.star (CE.var 5) CA.nil)))))))
    CB.nil))))
def F_places : List D → FR := runF b_places 7 [] true
theorem c_places : b_places.chk (scOf N_places (defScope (top 19)) [] [] true none) (defBody (top 19)) = true := by decide +kernel
/-! is_place -/
def d_is_place : DefG := ⟨fun K => ga K "is_place", "is_place", "is_place", defArgs (top 16), defBody (top 16), defScope (top 16), []⟩
abbrev N_is_place : List Str := ["n", "place", "face", "x", "y", "z", "c"]
abbrev p_is_place : List Str := ["n", "place"]
theorem s_is_place : FnScope N_is_place p_is_place (defScope (top 16)) := ⟨rfl, rfl, rfl, by decide +kernel, rfl, by decide +kernel, by decide +kernel⟩
def b_is_place : CB :=
    (CB.cons (CS.expr (CE.call "check_size" 1 [] F_check_size (CC.val (CE.var 0) CC.nil)))
    (CB.cons (CS.asg (CG.tup [(CG.name 2), (CG.name 3), (CG.name 4), (CG.name 5)]) (CE.var 1))
    (CB.cons (CS.if_ (CT.or [(CT.cmp cNotIn (CE.var 2) (CE.tup (CA.cons (CE.str "R") (CA.cons (CE.str "L") (CA.cons (CE.str "U") (CA.cons (CE.str "D") (CA.cons (CE.str "F") (CA.cons (CE.str "B") CA.nil)))))))), (CT.not (CT.val (CE.bltc bAll (CM.cons (CE.ofF (CF.lc ⟨[6], (CG.name 6), (CI.seq (CE.tup (CA.cons (CE.var 3) (CA.cons (CE.var 4) (CA.cons (CE.var 5) CA.nil))))), none, (CE.chain cLe cLt (CE.int 0) (CE.var 6) (CE.var 0))⟩)) CM.nil))))])
    (CB.cons (CS.ret (CE.bl false))
    CB.nil)
    CB.nil)
    (CB.cons (CS.ret (CE.cmp cEq (CE.call "depth" 3 [] F_depth (CC.val (CE.var 0) (CC.val (CE.var 2) (CC.val (CE.tup (CA.cons (CE.var 3) (CA.cons (CE.var 4) (CA.cons (CE.var 5) CA.nil)))) CC.nil)))) (CE.int 1)))
    CB.nil))))
def F_is_place : List D → FR := runF b_is_place 7 [] false
theorem c_is_place : b_is_place.chk (scOf N_is_place (defScope (top 16)) [] [] false none) (defBody (top 16)) = true := by decide +kernel
/-! check_places -/
def d_check_places : DefG := ⟨fun K => ga K "check_places", "check_places", "check_places", defArgs (top 17), defBody (top 17), defScope (top 17), []⟩
abbrev N_check_places : List Str := ["n", "asked", "place"]
abbrev p_check_places : List Str := ["n", "asked"]
theorem s_check_places : FnScope N_check_places p_check_places (defScope (top 17)) := ⟨rfl, rfl, rfl, by decide +kernel, rfl, by decide +kernel, by decide +kernel⟩
theorem bn_is_place_2 {K : Fg} : Bnd K d_is_place p_is_place [] := Bnd.none rfl (fun _ _ _ _ _ _ us hl => match us, hl with | [_, _], _ => rfl)
def b_check_places : CB :=
    (CB.cons (CS.expr (CE.call "check_size" 1 [] F_check_size (CC.val (CE.var 0) CC.nil)))
    (CB.cons (CS.for_ (CG.name 2) (CI.seq (CE.var 1))
    (CB.cons (CS.if_ (CT.not (CT.val (CE.call "is_place" 2 [] F_is_place (CC.val (CE.var 0) (CC.val (CE.var 2) CC.nil)))))
    (CB.cons (CS.raise_ "InvalidPlace" ["place"] (CC.val (CE.var 2) CC.nil) (emptyOk_val _ _))
    CB.nil)
    CB.nil)
    CB.nil))
    CB.nil))
def F_check_places : List D → FR := runF b_check_places 3 [] false
theorem c_check_places : b_check_places.chk (scOf N_check_places (defScope (top 17)) [] [] false none) (defBody (top 17)) = true := by decide +kernel
/-! piece -/
def d_piece : DefG := ⟨fun K => ga K "piece", "piece", "piece", defArgs (top 20), defBody (top 20), defScope (top 20), []⟩
abbrev N_piece : List Str := ["n", "place", "cell", "letters", "across", "upright", "lesser", "at", "face"]
abbrev p_piece : List Str := ["n", "place"]
theorem s_piece : FnScope N_piece p_piece (defScope (top 20)) := ⟨rfl, rfl, rfl, by decide +kernel, rfl, by decide +kernel, by decide +kernel⟩
theorem bn_check_places_2 {K : Fg} : Bnd K d_check_places p_check_places [] := Bnd.none rfl (fun _ _ _ _ _ _ us hl => match us, hl with | [_, _], _ => rfl)
def b_piece : CB :=
    (CB.cons (CS.expr (CE.call "check_places" 2 [] F_check_places (CC.val (CE.var 0) (CC.val (CE.ofF (CF.lst (CA.cons (CE.var 1) CA.nil))) CC.nil))))
    (CB.cons (CS.asg (CG.name 2) (CE.sl (CE.var 1) (some (CE.int 1)) none))
    (CB.cons (CS.asg (CG.name 3) (CE.call "faces_of" 2 [] F_faces_of (CC.val (CE.var 0) (CC.val (CE.var 2) CC.nil))))
    (CB.cons (CS.if_ (CT.cmp cEq (CE.blt bLen (CM.cons (CE.var 3) CM.nil)) (CE.int 3))
    (CB.cons (CS.asg (CG.name 4) (CE.bin oAdd (CE.ofF (CF.lc ⟨[8], (CG.name 8), (CI.seq (CE.var 3)), (some (CT.cmp cIn (CE.var 8) (CE.str "RL"))), (CE.var 8)⟩)) (CE.ofF (CF.lc ⟨[8], (CG.name 8), (CI.seq (CE.var 3)), (some (CT.cmp cIn (CE.var 8) (CE.str "FB"))), (CE.var 8)⟩))))
    (CB.cons (CS.setLc 5 true ⟨[8], (CG.name 8), (CI.seq (CE.var 3)), (some (CT.cmp cIn (CE.var 8) (CE.str "UD"))), (CE.var 8)⟩)
    (CB.cons (CS.asg (CG.name 6) (CE.blt bLen (CM.cons (CE.ofF (CF.lc ⟨[8], (CG.name 8), (CI.seq (CE.var 3)), (some (CT.cmp cIn (CE.var 8) (CE.str "LDB"))), (CE.var 8)⟩)) CM.nil)))
    (CB.cons (CS.asg (CG.name 3) (CE.bin oAdd (CE.var 5) (CE.ite (CT.cmp cEq (CE.bin oMod (CE.var 6) (CE.int 2)) (CE.int 0)) (CE.var 4) (CE.rev (CE.var 4)))))
    CB.nil))))
    CB.nil)
    (CB.cons (CS.asg (CG.name 7) (CE.bm mLstIndex (CE.var 3) (CM.cons (CE.ix (CE.var 1) (CE.int 0)) CM.nil)))
    (CB.cons (CS.retF (CF.lc ⟨[8], (CG.name 8), (CI.seq (CE.bin oAdd (CE.sl (CE.var 3) (some (CE.var 7)) none) (CE.sl (CE.var 3) none (some (CE.var 7))))), none, (CE.tup (CA.cons (CE.var 8) (CA.star (CE.var 2) CA.nil)))⟩))
    CB.nil))))))
def F_piece : List D → FR := runF b_piece 9 [] true
theorem c_piece : b_piece.chk (scOf N_piece (defScope (top 20)) [] [] true none) (defBody (top 20)) = true := by decide +kernel
/-! _law_cells_faces -/
def d_l_law_cells_faces : DefG := ⟨fun K => ga K "_law_cells_faces", "_law_cells_faces", "_law_cells_faces", defArgs (top 32), defBody (top 32), defScope (top 32), []⟩
abbrev N_l_law_cells_faces : List Str := ["_law_n", "_law_cell_here", "_law_found", "_law_k"]
abbrev p_l_law_cells_faces : List Str := ["_law_n", "_law_cell_here"]
theorem s_l_law_cells_faces : FnScope N_l_law_cells_faces p_l_law_cells_faces (defScope (top 32)) := ⟨rfl, rfl, rfl, by decide +kernel, rfl, by decide +kernel, by decide +kernel⟩
def b_l_law_cells_faces : CB :=
    (CB.cons (CS.setF 2 (CF.lst CA.nil))
    (CB.cons (CS.for_ (CG.name 3) (CI.range1 (CE.int 6))
    (CB.cons (CS.if_ (CT.cmp cEq (CE.ix (CE.var 1) (CE.bin oDiv (CE.var 3) (CE.int 2))) (CE.ix (CE.ofF (CF.lst (CA.cons (CE.bin oSub (CE.var 0) (CE.int 1)) (CA.cons (CE.int 0) CA.nil)))) (CE.bin oMod (CE.var 3) (CE.int 2))))
    (CB.cons (CS.expr (CE.mo mAppend 2 (CA.cons (CE.ix (CE.str "RLUDFB") (CE.var 3)) CA.nil)))
    CB.nil)
    CB.nil)
    CB.nil))
    (CB.cons (CS.ret (CE.ofF (CF.move 2)))
    CB.nil)))
def F_l_law_cells_faces : List D → FR := runF b_l_law_cells_faces 4 [] false
theorem c_l_law_cells_faces : b_l_law_cells_faces.chk (scOf N_l_law_cells_faces (defScope (top 32)) [2] [] false none) (defBody (top 32)) = true := by decide +kernel
/-! lesser_depth -/
def d_lesser_depth : DefG := ⟨fun K => ga K "lesser_depth", "lesser_depth", "lesser_depth", defArgs (top 21), defBody (top 21), defScope (top 21), []⟩
abbrev N_lesser_depth : List Str := ["n", "pair", "cell", "face"]
abbrev p_lesser_depth : List Str := ["n", "pair", "cell"]
theorem s_lesser_depth : FnScope N_lesser_depth p_lesser_depth (defScope (top 21)) := ⟨rfl, rfl, rfl, by decide +kernel, rfl, by decide +kernel, by decide +kernel⟩
def b_lesser_depth : CB :=
    (CB.cons (CS.ret (CE.bltc bMin (CM.cons (CE.ofF (CF.lc ⟨[3], (CG.name 3), (CI.seq (CE.var 1)), none, (CE.call "depth" 3 [] F_depth (CC.val (CE.var 0) (CC.val (CE.var 3) (CC.val (CE.var 2) CC.nil))))⟩)) CM.nil)))
    CB.nil)
def F_lesser_depth : List D → FR := runF b_lesser_depth 4 [] false
theorem c_lesser_depth : b_lesser_depth.chk (scOf N_lesser_depth (defScope (top 21)) [] [] false none) (defBody (top 21)) = true := by decide +kernel
/-! kind -/
def d_kind : DefG := ⟨fun K => ga K "kind", "kind", "kind", defArgs (top 22), defBody (top 22), defScope (top 22), []⟩
abbrev N_kind : List Str := ["n", "place", "cell", "depths", "at_faces", "pair"]
abbrev p_kind : List Str := ["n", "place"]
theorem s_kind : FnScope N_kind p_kind (defScope (top 22)) := ⟨rfl, rfl, rfl, by decide +kernel, rfl, by decide +kernel, by decide +kernel⟩
theorem bn_lesser_depth_3 {K : Fg} : Bnd K d_lesser_depth p_lesser_depth [] := Bnd.none rfl (fun _ _ _ _ _ _ us hl => match us, hl with | [_, _, _], _ => rfl)
def b_kind : CB :=
    (CB.cons (CS.expr (CE.call "check_places" 2 [] F_check_places (CC.val (CE.var 0) (CC.val (CE.ofF (CF.lst (CA.cons (CE.var 1) CA.nil))) CC.nil))))
    (CB.cons (CS.asg (CG.name 2) (CE.sl (CE.var 1) (some (CE.int 1)) none))
    (CB.cons (CS.asg (CG.name 3) (CE.ofF (CF.sorted (CE.ofF (CF.lc ⟨[5], (CG.name 5), (CI.seq (CE.tup (CA.cons (CE.str "LR") (CA.cons (CE.str "DU") (CA.cons (CE.str "BF") CA.nil))))), none, (CE.call "lesser_depth" 3 [] F_lesser_depth (CC.val (CE.var 0) (CC.val (CE.var 5) (CC.val (CE.var 2) CC.nil))))⟩)))))
    (CB.cons (CS.asg (CG.name 4) (CE.bm mLstCount (CE.var 3) (CM.cons (CE.int 1) CM.nil)))
    (CB.cons (CS.if_ (CT.cmp cEq (CE.var 4) (CE.int 3))
    (CB.cons (CS.ret (CE.tup (CA.cons (CE.gstr "CORNER" "corner") CA.nil)))
    CB.nil)
    CB.nil)
    (CB.cons (CS.if_ (CT.cmp cEq (CE.var 4) (CE.int 2))
    (CB.cons (CS.ret (CE.ite (CT.cmp cEq (CE.bin oMul (CE.int 2) (CE.ix (CE.var 3) (CE.int 2))) (CE.bin oAdd (CE.var 0) (CE.int 1))) (CE.tup (CA.cons (CE.gstr "EDGE" "edge") CA.nil)) (CE.tup (CA.cons (CE.gstr "WING" "wing") (CA.cons (CE.ix (CE.var 3) (CE.int 2)) CA.nil)))))
    CB.nil)
    CB.nil)
    (CB.cons (CS.if_ (CT.cmp cEq (CE.bin oMul (CE.int 2) (CE.ix (CE.var 3) (CE.int 1))) (CE.bin oAdd (CE.var 0) (CE.int 1)))
    (CB.cons (CS.ret (CE.tup (CA.cons (CE.gstr "MIDDLE_CENTRE" "middle") CA.nil)))
    CB.nil)
    CB.nil)
    (CB.cons (CS.ret (CE.tup (CA.cons (CE.gstr "CENTRE" "centre") (CA.cons (CE.ix (CE.var 3) (CE.int 1)) (CA.cons (CE.ix (CE.var 3) (CE.int 2)) CA.nil)))))
    CB.nil))))))))
def F_kind : List D → FR := runF b_kind 6 [] false
theorem c_kind : b_kind.chk (scOf N_kind (defScope (top 22)) [] [] false none) (defBody (top 22)) = true := by decide +kernel
/-! _law_kind -/
def d_l_law_kind : DefG := ⟨fun K => ga K "_law_kind", "_law_kind", "_law_kind", defArgs (top 35), defBody (top 35), defScope (top 35), []⟩
abbrev N_l_law_kind : List Str := ["_law_n", "_law_cell_here", "_law_deep", "_law_many", "_law_c", "_law_d"]
abbrev p_l_law_kind : List Str := ["_law_n", "_law_cell_here"]
theorem s_l_law_kind : FnScope N_l_law_kind p_l_law_kind (defScope (top 35)) := ⟨rfl, rfl, rfl, by decide +kernel, rfl, by decide +kernel, by decide +kernel⟩
def b_l_law_kind : CB :=
    (CB.cons (CS.asg (CG.name 2) (CE.ofF (CF.sorted (CE.ofF (CF.lc ⟨[4], (CG.name 4), (CI.seq (CE.var 1)), none, (CE.bltc bMin (CM.cons (CE.bin oAdd (CE.var 4) (CE.int 1)) (CM.cons (CE.bin oSub (CE.var 0) (CE.var 4)) CM.nil)))⟩)))))
    (CB.cons (CS.asg (CG.name 3) (CE.blt bLen (CM.cons (CE.ofF (CF.lc ⟨[5], (CG.name 5), (CI.seq (CE.var 2)), (some (CT.cmp cEq (CE.var 5) (CE.int 1))), (CE.var 5)⟩)) CM.nil)))
    (CB.cons (CS.if_ (CT.cmp cEq (CE.var 3) (CE.int 3))
    (CB.cons (CS.ret (CE.tup (CA.cons (CE.str "corner") CA.nil)))
    CB.nil)
    CB.nil)
    (CB.cons (CS.if_ (CT.cmp cEq (CE.var 3) (CE.int 2))
    (CB.cons (CS.ret (CE.ite (CT.cmp cEq (CE.bin oMul (CE.int 2) (CE.ix (CE.var 2) (CE.int 2))) (CE.bin oAdd (CE.var 0) (CE.int 1))) (CE.tup (CA.cons (CE.str "edge") CA.nil)) (CE.tup (CA.cons (CE.str "wing") (CA.cons (CE.ix (CE.var 2) (CE.int 2)) CA.nil)))))
    CB.nil)
    CB.nil)
    (CB.cons (CS.ret (CE.ite (CT.cmp cEq (CE.bin oMul (CE.int 2) (CE.ix (CE.var 2) (CE.int 1))) (CE.bin oAdd (CE.var 0) (CE.int 1))) (CE.tup (CA.cons (CE.str "middle") CA.nil)) (CE.tup (CA.cons (CE.str "centre") (CA.cons (CE.ix (CE.var 2) (CE.int 1)) (CA.cons (CE.ix (CE.var 2) (CE.int 2)) CA.nil))))))
    CB.nil)))))
def F_l_law_kind : List D → FR := runF b_l_law_kind 6 [] false
theorem c_l_law_kind : b_l_law_kind.chk (scOf N_l_law_kind (defScope (top 35)) [] [] false none) (defBody (top 35)) = true := by decide +kernel
/-! _law_normal -/
def d_l_law_normal : DefG := ⟨fun K => ga K "_law_normal", "_law_normal", "_law_normal", defArgs (top 33), defBody (top 33), defScope (top 33), []⟩
abbrev N_l_law_normal : List Str := ["_law_face", "_law_at", "_law_k"]
abbrev p_l_law_normal : List Str := ["_law_face"]
theorem s_l_law_normal : FnScope N_l_law_normal p_l_law_normal (defScope (top 33)) := ⟨rfl, rfl, rfl, by decide +kernel, rfl, by decide +kernel, by decide +kernel⟩
def b_l_law_normal : CB :=
    (CB.cons (CS.asg (CG.name 1) (CE.bm mStrFind (CE.str "RLUDFB") (CM.cons (CE.var 0) CM.nil)))
    (CB.cons (CS.ret (CE.ofF (CF.lc ⟨[2], (CG.name 2), (CI.range1 (CE.int 3)), none, (CE.ite (CT.cmp cEq (CE.var 2) (CE.bin oDiv (CE.var 1) (CE.int 2))) (CE.ix (CE.ofF (CF.lst (CA.cons (CE.int 0) (CA.cons (CE.int 1) (CA.cons (CE.neg (CE.int 1)) CA.nil))))) (CE.bin oAdd (CE.int 1) (CE.bin oMod (CE.var 1) (CE.int 2)))) (CE.int 0))⟩)))
    CB.nil))
def F_l_law_normal : List D → FR := runF b_l_law_normal 3 [] false
theorem c_l_law_normal : b_l_law_normal.chk (scOf N_l_law_normal (defScope (top 33)) [] [] false none) (defBody (top 33)) = true := by decide +kernel
/-! _law_clockwise -/
def d_l_law_clockwise : DefG := ⟨fun K => ga K "_law_clockwise", "_law_clockwise", "_law_clockwise", defArgs (top 34), defBody (top 34), defScope (top 34), []⟩
abbrev N_l_law_clockwise : List Str := ["_law_one", "_law_two", "_law_three", "_law_a", "_law_b", "_law_c", "_law_volume"]
abbrev p_l_law_clockwise : List Str := ["_law_one", "_law_two", "_law_three"]
theorem s_l_law_clockwise : FnScope N_l_law_clockwise p_l_law_clockwise (defScope (top 34)) := ⟨rfl, rfl, rfl, by decide +kernel, rfl, by decide +kernel, by decide +kernel⟩
theorem bn_l_law_normal_1 {K : Fg} : Bnd K d_l_law_normal p_l_law_normal [] := Bnd.none rfl (fun _ _ _ _ _ _ us hl => match us, hl with | [_], _ => rfl)
def b_l_law_clockwise : CB :=
    (CB.cons (CS.par3 3 4 5 (CA.cons (CE.call "_law_normal" 1 [] F_l_law_normal (CC.val (CE.var 0) CC.nil)) (CA.cons (CE.call "_law_normal" 1 [] F_l_law_normal (CC.val (CE.var 1) CC.nil)) (CA.cons (CE.call "_law_normal" 1 [] F_l_law_normal (CC.val (CE.var 2) CC.nil)) CA.nil))))
    (CB.cons (CS.asg (CG.name 6) (CE.bin oMul (CE.ix (CE.var 3) (CE.int 0)) (CE.bin oSub (CE.bin oMul (CE.ix (CE.var 4) (CE.int 1)) (CE.ix (CE.var 5) (CE.int 2))) (CE.bin oMul (CE.ix (CE.var 4) (CE.int 2)) (CE.ix (CE.var 5) (CE.int 1))))))
    (CB.cons (CS.asg (CG.name 6) (CE.bin oSub (CE.var 6) (CE.bin oMul (CE.ix (CE.var 3) (CE.int 1)) (CE.bin oSub (CE.bin oMul (CE.ix (CE.var 4) (CE.int 0)) (CE.ix (CE.var 5) (CE.int 2))) (CE.bin oMul (CE.ix (CE.var 4) (CE.int 2)) (CE.ix (CE.var 5) (CE.int 0)))))))
    (CB.cons (CS.ret (CE.cmp cEq (CE.bin oAdd (CE.var 6) (CE.bin oMul (CE.ix (CE.var 3) (CE.int 2)) (CE.bin oSub (CE.bin oMul (CE.ix (CE.var 4) (CE.int 0)) (CE.ix (CE.var 5) (CE.int 1))) (CE.bin oMul (CE.ix (CE.var 4) (CE.int 1)) (CE.ix (CE.var 5) (CE.int 0)))))) (CE.neg (CE.int 1))))
    CB.nil))))
def F_l_law_clockwise : List D → FR := runF b_l_law_clockwise 7 [] false
theorem c_l_law_clockwise : b_l_law_clockwise.chk (scOf N_l_law_clockwise (defScope (top 34)) [] [] false none) (defBody (top 34)) = true := by decide +kernel
/-! _law_place_holds -/
def d_l_law_place_holds : DefG := ⟨fun K => ga K "_law_place_holds", "_law_place_holds", "_law_place_holds", defArgs (top 36), defBody (top 36), defScope (top 36), []⟩
abbrev N_l_law_place_holds : List Str := ["_law_n", "_law_place_here", "_law_cell_here", "_law_told", "_law_faces", "_law_one"]
abbrev p_l_law_place_holds : List Str := ["_law_n", "_law_place_here"]
theorem s_l_law_place_holds : FnScope N_l_law_place_holds p_l_law_place_holds (defScope (top 36)) := ⟨rfl, rfl, rfl, by decide +kernel, rfl, by decide +kernel, by decide +kernel⟩
theorem bn_piece_2 {K : Fg} : Bnd K d_piece p_piece [] := Bnd.none rfl (fun _ _ _ _ _ _ us hl => match us, hl with | [_, _], _ => rfl)
theorem bn_l_law_cells_faces_2 {K : Fg} : Bnd K d_l_law_cells_faces p_l_law_cells_faces [] := Bnd.none rfl (fun _ _ _ _ _ _ us hl => match us, hl with | [_, _], _ => rfl)
theorem bn_kind_2 {K : Fg} : Bnd K d_kind p_kind [] := Bnd.none rfl (fun _ _ _ _ _ _ us hl => match us, hl with | [_, _], _ => rfl)
theorem bn_l_law_kind_2 {K : Fg} : Bnd K d_l_law_kind p_l_law_kind [] := Bnd.none rfl (fun _ _ _ _ _ _ us hl => match us, hl with | [_, _], _ => rfl)
theorem bn_l_law_clockwise_3 {K : Fg} : Bnd K d_l_law_clockwise p_l_law_clockwise [] := Bnd.none rfl (fun _ _ _ _ _ _ us hl => match us, hl with | [_, _, _], _ => rfl)
def b_l_law_place_holds : CB :=
    (CB.cons (CS.asg (CG.name 2) (CE.sl (CE.var 1) (some (CE.int 1)) none))
    (CB.cons (CS.setF 3 (CF.call "piece" 2 [] F_piece (CC.val (CE.var 0) (CC.val (CE.var 1) CC.nil))))
    (CB.cons (CS.setLci 4 true ⟨[5], (CG.name 5), 3, (10 ^ 9), none, (CE.ix (CE.var 5) (CE.int 0))⟩)
    (CB.cons (CS.if_ (CT.or [(CT.cmp cNe (CE.ix (CE.bvar 3) (CE.int 0)) (CE.var 1)), (CT.cmp cNe (CE.ofF (CF.sorted (CE.var 4))) (CE.ofF (CF.sorted (CE.call "_law_cells_faces" 2 [] F_l_law_cells_faces (CC.val (CE.var 0) (CC.val (CE.var 2) CC.nil)))))), (CT.cmp cNe (CE.call "kind" 2 [] F_kind (CC.val (CE.var 0) (CC.val (CE.var 1) CC.nil))) (CE.call "_law_kind" 2 [] F_l_law_kind (CC.val (CE.var 0) (CC.val (CE.var 2) CC.nil))))])
    (CB.cons (CS.ret (CE.bl false))
    CB.nil)
    CB.nil)
    (CB.cons (CS.if_ (CT.or [(CT.cmp cNe (CE.ofF (CF.lci ⟨[5], (CG.name 5), 3, (10 ^ 9), (some (CT.cmp cNe (CE.sl (CE.var 5) (some (CE.int 1)) none) (CE.var 2))), (CE.var 5)⟩)) (CE.ofF (CF.lst CA.nil))), (CT.not (CT.val (CE.call "is_place" 2 [] F_is_place (CC.val (CE.var 0) (CC.val (CE.var 1) CC.nil)))))])
    (CB.cons (CS.ret (CE.bl false))
    CB.nil)
    CB.nil)
    (CB.cons (CS.if_ (CT.and [(CT.cmp cEq (CE.blt bLen (CM.cons (CE.var 4) CM.nil)) (CE.int 3)), (CT.not (CT.val (CE.call "_law_clockwise" 3 [] F_l_law_clockwise (CC.val (CE.ix (CE.var 4) (CE.int 0)) (CC.val (CE.ix (CE.var 4) (CE.int 1)) (CC.val (CE.ix (CE.var 4) (CE.int 2)) CC.nil))))))])
    (CB.cons (CS.ret (CE.bl false))
    CB.nil)
    CB.nil)
    (CB.cons (CS.expr (CE.mo mAppend 3 (CA.cons (CE.var 1) CA.nil)))
    (CB.cons (CS.ret (CE.cmp cEq (CE.blt bLen (CM.cons (CE.ofF (CF.call "piece" 2 [] F_piece (CC.val (CE.var 0) (CC.val (CE.var 1) CC.nil)))) CM.nil)) (CE.blt bLen (CM.cons (CE.var 4) CM.nil))))
    CB.nil))))))))
def F_l_law_place_holds : List D → FR := runF b_l_law_place_holds 6 [] false
theorem c_l_law_place_holds : b_l_law_place_holds.chk (scOf N_l_law_place_holds (defScope (top 36)) [3] [] false none) (defBody (top 36)) = true := by decide +kernel
/-! _law_none -/
def d_l_law_none : DefG := ⟨fun K => ga K "_law_none", "_law_none", "_law_none", defArgs (top 38), defBody (top 38), defScope (top 38), []⟩
abbrev N_l_law_none : List Str := ["_law_source_here", "_law_n", "_law_place_here", "_law_cell_here", "_law_way", "_law_at"]
abbrev p_l_law_none : List Str := ["_law_source_here", "_law_n", "_law_place_here"]
theorem s_l_law_none : FnScope N_l_law_none p_l_law_none (defScope (top 38)) := ⟨rfl, rfl, rfl, by decide +kernel, rfl, by decide +kernel, by decide +kernel⟩
theorem bn_l_law_draw_2 {K : Fg} : Bnd K d_l_law_draw p_l_law_draw [] := Bnd.none rfl (fun _ _ _ _ _ _ us hl => match us, hl with | [_, _], _ => rfl)
def b_l_law_none : CB :=
    (CB.cons (CS.setF 3 (CF.list (CE.sl (CE.var 2) (some (CE.int 1)) none)))
    (CB.cons (CS.asg (CG.name 4) (CE.call "_law_draw" 2 [] F_l_law_draw (CC.ref 0 (CC.val (CE.int 5) CC.nil))))
    (CB.cons (CS.if_ (CT.cmp cLt (CE.var 4) (CE.int 3))
    (CB.cons (CS.setIx 3 (CE.var 4) (CE.ix (CE.ofF (CF.lst (CA.cons (CE.var 1) (CA.cons (CE.bin oAdd (CE.var 1) (CE.bin oPow (CE.int 10) (CE.int 20))) (CA.cons (CE.neg (CE.int 1)) (CA.cons (CE.neg (CE.int 9)) CA.nil)))))) (CE.call "_law_draw" 2 [] F_l_law_draw (CC.ref 0 (CC.val (CE.int 4) CC.nil)))))
    (CB.cons (CS.ret (CE.tup (CA.cons (CE.ix (CE.var 2) (CE.int 0)) (CA.cons (CE.ix (CE.bvar 3) (CE.int 0)) (CA.cons (CE.ix (CE.bvar 3) (CE.int 1)) (CA.cons (CE.ix (CE.bvar 3) (CE.int 2)) CA.nil))))))
    CB.nil))
    CB.nil)
    (CB.cons (CS.asg (CG.name 5) (CE.bin oDiv (CE.bm mStrFind (CE.str "RLUDFB") (CM.cons (CE.ix (CE.var 2) (CE.int 0)) CM.nil)) (CE.int 2)))
    (CB.cons (CS.if_ (CT.cmp cEq (CE.var 4) (CE.int 3))
    (CB.cons (CS.setIx 3 (CE.var 5) (CE.bin oSub (CE.bin oSub (CE.var 1) (CE.int 1)) (CE.ix (CE.bvar 3) (CE.var 5))))
    (CB.cons (CS.ret (CE.tup (CA.cons (CE.ix (CE.var 2) (CE.int 0)) (CA.cons (CE.ix (CE.bvar 3) (CE.int 0)) (CA.cons (CE.ix (CE.bvar 3) (CE.int 1)) (CA.cons (CE.ix (CE.bvar 3) (CE.int 2)) CA.nil))))))
    CB.nil))
    CB.nil)
    (CB.cons (CS.ret (CE.tup (CA.cons (CE.ix (CE.ofF (CF.lst (CA.cons (CE.str "") (CA.cons (CE.str "x") (CA.cons (CE.str "RL") (CA.cons (CE.str "r") CA.nil)))))) (CE.call "_law_draw" 2 [] F_l_law_draw (CC.ref 0 (CC.val (CE.int 4) CC.nil)))) (CA.cons (CE.ix (CE.bvar 3) (CE.int 0)) (CA.cons (CE.ix (CE.bvar 3) (CE.int 1)) (CA.cons (CE.ix (CE.bvar 3) (CE.int 2)) CA.nil))))))
    CB.nil))))))
def F_l_law_none : List D → FR := runF b_l_law_none 6 [0] false
theorem c_l_law_none : b_l_law_none.chk (scOf N_l_law_none (defScope (top 38)) [0, 3] [0] false none) (defBody (top 38)) = true := by decide +kernel
/-! _law_refused -/
def d_l_law_refused : DefG := ⟨fun K => ga K "_law_refused", "_law_refused", "_law_refused", defArgs (top 37), defBody (top 37), defScope (top 37), []⟩
abbrev N_l_law_refused : List Str := ["_law_call", "e"]
abbrev p_l_law_refused : List Str := ["_law_call"]
theorem s_l_law_refused : FnScope N_l_law_refused p_l_law_refused (defScope (top 37)) := ⟨rfl, rfl, rfl, by decide +kernel, rfl, by decide +kernel, by decide +kernel⟩
def g_l_law_refused : GB := ⟨"_law_refused", "_law_call", N_l_law_refused, (.ex (CB.cons (CS.ret (CE.ofF (CF.lst CA.nil)))
    CB.nil)), ["InvalidSize", "InvalidPlace", "TooLarge"],
    [⟨"InvalidSize", (some 1), (CB.cons (CS.ret (CE.ofF (CF.lst (CA.cons (CE.str "size") (CA.cons (CE.xf ["InvalidSize"] "n" (CE.var 1)) CA.nil)))))
    CB.nil)⟩, ⟨"InvalidPlace", (some 1), (CB.cons (CS.ret (CE.ofF (CF.lst (CA.cons (CE.str "place") (CA.cons (CE.xf ["InvalidPlace"] "place" (CE.var 1)) CA.nil)))))
    CB.nil)⟩, ⟨"TooLarge", (some 1), (CB.cons (CS.ret (CE.ofF (CF.lst (CA.cons (CE.str "large") (CA.cons (CE.xf ["TooLarge"] "n" (CE.var 1)) CA.nil)))))
    CB.nil)⟩]⟩
theorem c_l_law_refused : g_l_law_refused.chk (defScope (top 37)) (defBody (top 37)) = true := by decide +kernel
/-! _law_no_size -/
def d_l_law_no_size : DefG := ⟨fun K => ga K "_law_no_size", "_law_no_size", "_law_no_size", defArgs (top 39), defBody (top 39), defScope (top 39), []⟩
abbrev N_l_law_no_size : List Str := ["_law_odd", "_law_wrong"]
abbrev p_l_law_no_size : List Str := ["_law_odd", "_law_wrong"]
theorem s_l_law_no_size : FnScope N_l_law_no_size p_l_law_no_size (defScope (top 39)) := ⟨rfl, rfl, rfl, by decide +kernel, rfl, by decide +kernel, by decide +kernel⟩
theorem bn_places_1 {K : Fg} : Bnd K d_places p_places [] := Bnd.none rfl (fun _ _ _ _ _ _ us hl => match us, hl with | [_], _ => rfl)
def b_l_law_no_size : CB :=
    (CB.cons (CS.if_ (CT.cmp cNe (CE.lamc g_l_law_refused (CE.call "kind" 2 [] F_kind (CC.val (CE.var 0) (CC.val (CE.var 1) CC.nil)))) (CE.ofF (CF.lst (CA.cons (CE.str "size") (CA.cons (CE.var 0) CA.nil)))))
    (CB.cons (CS.ret (CE.bl false))
    CB.nil)
    CB.nil)
    (CB.cons (CS.if_ (CT.cmp cNe (CE.lamc g_l_law_refused (CE.ofF (CF.call "places" 1 [] F_places (CC.val (CE.var 0) CC.nil)))) (CE.ofF (CF.lst (CA.cons (CE.str "size") (CA.cons (CE.var 0) CA.nil)))))
    (CB.cons (CS.ret (CE.bl false))
    CB.nil)
    CB.nil)
    (CB.cons (CS.ret (CE.cmp cEq (CE.lamc g_l_law_refused (CE.ofF (CF.call "piece" 2 [] F_piece (CC.val (CE.var 0) (CC.val (CE.var 1) CC.nil))))) (CE.ofF (CF.lst (CA.cons (CE.str "size") (CA.cons (CE.var 0) CA.nil))))))
    CB.nil)))
def F_l_law_no_size : List D → FR := runF b_l_law_no_size 2 [] false
theorem c_l_law_no_size : b_l_law_no_size.chk (scOf N_l_law_no_size (defScope (top 39)) [] [] false (some "_law_no_size")) (defBody (top 39)) = true := by decide +kernel
/-! _law_refusals_hold -/
def d_l_law_refusals_hold : DefG := ⟨fun K => ga K "_law_refusals_hold", "_law_refusals_hold", "_law_refusals_hold", defArgs (top 40), defBody (top 40), defScope (top 40), []⟩
abbrev N_l_law_refusals_hold : List Str := ["_law_source_here", "_law_n", "_law_far", "_law_good", "_law_wrong", "_law_odd"]
abbrev p_l_law_refusals_hold : List Str := ["_law_source_here", "_law_n", "_law_far", "_law_good"]
theorem s_l_law_refusals_hold : FnScope N_l_law_refusals_hold p_l_law_refusals_hold (defScope (top 40)) := ⟨rfl, rfl, rfl, by decide +kernel, rfl, by decide +kernel, by decide +kernel⟩
theorem bn_l_law_none_3 {K : Fg} : Bnd K d_l_law_none p_l_law_none [] := Bnd.none rfl (fun _ _ _ _ _ _ us hl => match us, hl with | [_, _, _], _ => rfl)
theorem bn_l_law_no_size_2 {K : Fg} : Bnd K d_l_law_no_size p_l_law_no_size [] := Bnd.none rfl (fun _ _ _ _ _ _ us hl => match us, hl with | [_, _], _ => rfl)
def b_l_law_refusals_hold : CB :=
    (CB.cons (CS.asg (CG.name 4) (CE.call "_law_none" 3 [] F_l_law_none (CC.ref 0 (CC.val (CE.var 1) (CC.val (CE.var 3) CC.nil)))))
    (CB.cons (CS.if_ (CT.or [(CT.cmp cNe (CE.lamc g_l_law_refused (CE.ofF (CF.call "places" 1 [] F_places (CC.val (CE.bin oAdd (CE.int 21) (CE.var 2)) CC.nil)))) (CE.ofF (CF.lst (CA.cons (CE.str "large") (CA.cons (CE.bin oAdd (CE.int 21) (CE.var 2)) CA.nil))))), (CT.val (CE.call "is_place" 2 [] F_is_place (CC.val (CE.var 1) (CC.val (CE.var 4) CC.nil))))])
    (CB.cons (CS.ret (CE.bl false))
    CB.nil)
    CB.nil)
    (CB.cons (CS.for_ (CG.name 5) (CI.seq (CE.ofF (CF.lst (CA.cons (CE.int 1) (CA.cons (CE.int 0) (CA.cons (CE.neg (CE.var 2)) CA.nil))))))
    (CB.cons (CS.if_ (CT.not (CT.val (CE.call "_law_no_size" 2 [] F_l_law_no_size (CC.val (CE.var 5) (CC.val (CE.var 4) CC.nil)))))
    (CB.cons (CS.ret (CE.bl false))
    CB.nil)
    CB.nil)
    CB.nil))
    (CB.cons (CS.if_ (CT.cmp cNe (CE.lamc g_l_law_refused (CE.ofF (CF.call "piece" 2 [] F_piece (CC.val (CE.var 1) (CC.val (CE.var 4) CC.nil))))) (CE.ofF (CF.lst (CA.cons (CE.str "place") (CA.cons (CE.var 4) CA.nil)))))
    (CB.cons (CS.ret (CE.bl false))
    CB.nil)
    CB.nil)
    (CB.cons (CS.ret (CE.cmp cEq (CE.lamc g_l_law_refused (CE.call "kind" 2 [] F_kind (CC.val (CE.var 1) (CC.val (CE.var 4) CC.nil)))) (CE.ofF (CF.lst (CA.cons (CE.str "place") (CA.cons (CE.var 4) CA.nil))))))
    CB.nil)))))
def F_l_law_refusals_hold : List D → FR := runF b_l_law_refusals_hold 6 [0] false
theorem c_l_law_refusals_hold : b_l_law_refusals_hold.chk (scOf N_l_law_refusals_hold (defScope (top 40)) [0] [0] false (some "_law_refusals_hold")) (defBody (top 40)) = true := by decide +kernel
/-! law -/
def d_law : DefG := ⟨fun K => ga K "law", "law", "law", defArgs (top 41), defBody (top 41), defScope (top 41), []⟩
abbrev N_law : List Str := ["_law_script", "_law_source_here", "_law_far", "_law_n", "_law_due", "_law_told", "_law_place_here", "_law_size", "_law_turn", "_law_at", "_law_cell_here", "_law_k"]
abbrev p_law : List Str := ["_law_script"]
theorem s_law : FnScope N_law p_law (defScope (top 41)) := ⟨rfl, rfl, rfl, by decide +kernel, rfl, by decide +kernel, by decide +kernel⟩
theorem bn_l_law_cell_2 {K : Fg} : Bnd K d_l_law_cell p_l_law_cell [] := Bnd.none rfl (fun _ _ _ _ _ _ us hl => match us, hl with | [_, _], _ => rfl)
theorem bn_l_law_source_1 {K : Fg} : Bnd K d_l_law_source p_l_law_source [] := Bnd.none rfl (fun _ _ _ _ _ _ us hl => match us, hl with | [_], _ => rfl)
theorem bn_l_law_places_1 {K : Fg} : Bnd K d_l_law_places p_l_law_places [] := Bnd.none rfl (fun _ _ _ _ _ _ us hl => match us, hl with | [_], _ => rfl)
theorem bn_l_law_place_holds_2 {K : Fg} : Bnd K d_l_law_place_holds p_l_law_place_holds [] := Bnd.none rfl (fun _ _ _ _ _ _ us hl => match us, hl with | [_, _], _ => rfl)
theorem bn_l_law_refusals_hold_4 {K : Fg} : Bnd K d_l_law_refusals_hold p_l_law_refusals_hold [] := Bnd.none rfl (fun _ _ _ _ _ _ us hl => match us, hl with | [_, _, _, _], _ => rfl)
def b_law : CB :=
    (CB.cons (CS.setF 1 (CF.call "_law_source" 1 [] F_l_law_source (CC.val (CE.call "_law_cell" 2 [] F_l_law_cell (CC.val (CE.var 0) (CC.val (CE.int 0) CC.nil))) CC.nil)))
    (CB.cons (CS.asg (CG.name 2) (CE.bin oMod (CE.call "_law_cell" 2 [] F_l_law_cell (CC.val (CE.var 0) (CC.val (CE.int 1) CC.nil))) (CE.bin oPow (CE.int 10) (CE.int 30))))
    (CB.cons (CS.asg (CG.name 3) (CE.bin oAdd (CE.int 2) (CE.call "_law_draw" 2 [] F_l_law_draw (CC.ref 1 (CC.val (CE.int 5) CC.nil)))))
    (CB.cons (CS.asg (CG.name 4) (CE.call "_law_places" 1 [] F_l_law_places (CC.val (CE.var 3) CC.nil)))
    (CB.cons (CS.setF 5 (CF.call "places" 1 [] F_places (CC.val (CE.var 3) CC.nil)))
    (CB.cons (CS.if_ (CT.or [(CT.cmp cNe (CE.bvar 5) (CE.var 4)), (CT.cmp cNe (CE.blt bLen (CM.cons (CE.bvar 5) CM.nil)) (CE.bin oMul (CE.bin oMul (CE.int 6) (CE.var 3)) (CE.var 3)))])
    (CB.cons (CS.ret (CE.bl false))
    CB.nil)
    CB.nil)
    (CB.cons (CS.expr (CE.mo0 mClear 5))
    (CB.cons (CS.for_ (CG.name 6) (CI.seq (CE.var 4))
    (CB.cons (CS.if_ (CT.not (CT.val (CE.call "_law_place_holds" 2 [] F_l_law_place_holds (CC.val (CE.var 3) (CC.val (CE.var 6) CC.nil)))))
    (CB.cons (CS.ret (CE.bl false))
    CB.nil)
    CB.nil)
    CB.nil))
    (CB.cons (CS.if_ (CT.cmp cEq (CE.call "_law_draw" 2 [] F_l_law_draw (CC.ref 1 (CC.val (CE.int 8) CC.nil))) (CE.int 0))
    (CB.cons (CS.asg (CG.name 7) (CE.bin oAdd (CE.int 7) (CE.call "_law_draw" 2 [] F_l_law_draw (CC.ref 1 (CC.val (CE.int 14) CC.nil)))))
    (CB.cons (CS.if_ (CT.or [(CT.cmp cNe (CE.ofF (CF.call "places" 1 [] F_places (CC.val (CE.var 7) CC.nil))) (CE.call "_law_places" 1 [] F_l_law_places (CC.val (CE.var 7) CC.nil))), (CT.cmp cNe (CE.blt bLen (CM.cons (CE.ofF (CF.call "places" 1 [] F_places (CC.val (CE.int 20) CC.nil))) CM.nil)) (CE.int 2400))])
    (CB.cons (CS.ret (CE.bl false))
    CB.nil)
    CB.nil)
    CB.nil))
    CB.nil)
    (CB.cons (CS.asg (CG.name 3) (CE.bin oAdd (CE.int 7) (CE.var 2)))
    (CB.cons (CS.for_ (CG.name 8) (CI.range1 (CE.int 8))
    (CB.cons (CS.asg (CG.name 9) (CE.call "_law_draw" 2 [] F_l_law_draw (CC.ref 1 (CC.val (CE.int 6) CC.nil))))
    (CB.cons (CS.setLc 10 false ⟨[11], (CG.name 11), (CI.range1 (CE.int 3)), none, (CE.ix (CE.ofF (CF.lst (CA.cons (CE.int 0) (CA.cons (CE.int 1) (CA.cons (CE.bin oSub (CE.var 3) (CE.int 1)) (CA.cons (CE.bin oSub (CE.var 3) (CE.int 2)) (CA.cons (CE.bin oDiv (CE.var 3) (CE.int 2)) (CA.cons (CE.bin oDiv (CE.bin oSub (CE.var 3) (CE.int 1)) (CE.int 2)) (CA.cons (CE.bin oDiv (CE.var 2) (CE.int 3)) CA.nil))))))))) (CE.call "_law_draw" 2 [] F_l_law_draw (CC.ref 1 (CC.val (CE.int 7) CC.nil))))⟩)
    (CB.cons (CS.setIx 10 (CE.bin oDiv (CE.var 9) (CE.int 2)) (CE.ix (CE.ofF (CF.lst (CA.cons (CE.bin oSub (CE.var 3) (CE.int 1)) (CA.cons (CE.int 0) CA.nil)))) (CE.bin oMod (CE.var 9) (CE.int 2))))
    (CB.cons (CS.if_ (CT.not (CT.val (CE.call "_law_place_holds" 2 [] F_l_law_place_holds (CC.val (CE.var 3) (CC.val (CE.tup (CA.cons (CE.ix (CE.str "RLUDFB") (CE.var 9)) (CA.cons (CE.ix (CE.bvar 10) (CE.int 0)) (CA.cons (CE.ix (CE.bvar 10) (CE.int 1)) (CA.cons (CE.ix (CE.bvar 10) (CE.int 2)) CA.nil))))) CC.nil)))))
    (CB.cons (CS.ret (CE.bl false))
    CB.nil)
    CB.nil)
    CB.nil)))))
    (CB.cons (CS.ret (CE.call "_law_refusals_hold" 4 [] F_l_law_refusals_hold (CC.ref 1 (CC.val (CE.var 3) (CC.val (CE.var 2) (CC.val (CE.tup (CA.cons (CE.str "U") (CA.cons (CE.bin oDiv (CE.var 2) (CE.int 3)) (CA.cons (CE.bin oSub (CE.var 3) (CE.int 1)) (CA.cons (CE.int 1) CA.nil))))) CC.nil))))))
    CB.nil))))))))))))
def F_law : List D → FR := runF b_law 12 [] false
theorem c_law : b_law.chk (scOf N_law (defScope (top 41)) [1, 5, 10] [] false none) (defBody (top 41)) = true := by decide +kernel
def fa : List He.Fa := [.free "len", .free "int", .free "range", .free "sorted", .glo "InvalidSize", .free "super", .str "FACES" "RLUDFB", .glo "depth", .glo "check_size", .int "MOST_LISTED" 20, .glo "TooLarge", .glo "faces_of", .free "all", .glo "is_place", .glo "InvalidPlace", .glo "check_places", .free "min", .glo "lesser_depth", .str "CORNER" "corner", .str "EDGE" "edge", .str "WING" "wing", .str "MIDDLE_CENTRE" "middle", .str "CENTRE" "centre", .glo "_law_normal", .glo "piece", .glo "_law_cells_faces", .glo "kind", .glo "_law_kind", .glo "_law_clockwise", .free "list", .glo "_law_draw", .glo "_law_refused", .glo "places", .glo "_law_none", .glo "_law_no_size", .glo "_law_cell", .glo "_law_source", .glo "_law_places", .glo "_law_place_holds", .glo "_law_refusals_hold", .glo "law"]
def fq : List Fq := [.exk "InvalidSize" ["n"], .exk "TooLarge" ["n"], .exk "InvalidPlace" ["place"], .xf "InvalidSize" "n", .exm "InvalidSize" "InvalidSize" true, .exm "InvalidPlace" "InvalidSize" false, .exm "TooLarge" "InvalidSize" false, .xf "InvalidPlace" "place", .exm "InvalidSize" "InvalidPlace" false, .exm "InvalidPlace" "InvalidPlace" true, .exm "TooLarge" "InvalidPlace" false, .xf "TooLarge" "n", .exm "InvalidSize" "TooLarge" false, .exm "InvalidPlace" "TooLarge" false, .exm "TooLarge" "TooLarge" true, .lam]
def gn : List DefG := [d_l_law_cell, d_l_law_source, d_l_law_draw, d_l_law_places, d_check_size, d_depth, d_faces_of, d_places, d_is_place, d_check_places, d_piece, d_l_law_cells_faces, d_lesser_depth, d_kind, d_l_law_kind, d_l_law_normal, d_l_law_clockwise, d_l_law_place_holds, d_l_law_none, d_l_law_refused, d_l_law_no_size, d_l_law_refusals_hold, d_law]
def ts : List He.Tab := []
def tf : List He.Defn := [("_law_no_size", none), ("_law_refusals_hold", none)]
abbrev Zz := Zc0 PP fa ts tf fq gn
section
variable {w : World} {K : Fg} {mg : Str → Option Value} {h base : Heap}
theorem ok_l_law_cell (z : Zz w K mg h base) : OkG PP w K mg base d_l_law_cell 2 p_l_law_cell 2 [] false F_l_law_cell :=
  OkG.of (N := N_l_law_cell) (z.fn 0 rfl) s_l_law_cell [] [] false b_l_law_cell (by decide) (by decide) (by decide) (by decide) (df := none) c_l_law_cell (fun A hr => ⟨⟨⟨trivial, ⟨(z.free 0 "len" rfl), ⟨trivial, trivial⟩⟩⟩, ⟨⟨trivial, trivial⟩, trivial⟩, trivial⟩, ⟨trivial, trivial⟩⟩) (fun x h => nomatch h)
theorem ok_l_law_source (z : Zz w K mg h base) : OkG PP w K mg base d_l_law_source 2 p_l_law_source 1 [] true F_l_law_source :=
  OkG.of (N := N_l_law_source) (z.fn 1 rfl) s_l_law_source [] [] true b_l_law_source (by decide) (by decide) (by decide) (by decide) (df := none) c_l_law_source (fun A hr => ⟨⟨⟨trivial, ⟨trivial, trivial⟩⟩, ⟨⟨trivial, ⟨trivial, trivial⟩⟩, trivial⟩, trivial⟩, ⟨⟨⟨⟨(z.free 1 "int" rfl), ⟨⟨⟨trivial, trivial⟩, trivial⟩, trivial⟩⟩, trivial⟩, ⟨trivial, trivial⟩⟩, trivial⟩⟩) (fun x h => nomatch h)
theorem ok_l_law_draw (z : Zz w K mg h base) : OkG PP w K mg base d_l_law_draw 2 p_l_law_draw 2 [0] false F_l_law_draw :=
  OkG.of (N := N_l_law_draw) (z.fn 2 rfl) s_l_law_draw [0] [0] false b_l_law_draw (by decide) (by decide) (by decide) (by decide) (df := none) c_l_law_draw (fun A hr => ⟨⟨⟨⟨trivial, trivial⟩, trivial⟩, ⟨⟨⟨(z.free 1 "int" rfl), ⟨⟨trivial, trivial⟩, trivial⟩⟩, trivial⟩, ⟨⟨⟨⟨trivial, trivial⟩, trivial⟩, trivial⟩, ⟨trivial, trivial⟩⟩⟩, trivial⟩, ⟨⟨⟨⟨(z.free 1 "int" rfl), ⟨⟨⟨⟨trivial, trivial⟩, trivial⟩, trivial⟩, trivial⟩⟩, trivial⟩, trivial⟩, ⟨⟨⟨⟨(z.free 1 "int" rfl), ⟨⟨⟨⟨trivial, trivial⟩, trivial⟩, trivial⟩, trivial⟩⟩, trivial⟩, trivial⟩, trivial⟩⟩⟩) (fun x h => nomatch h)
theorem ok_l_law_places (z : Zz w K mg h base) : OkG PP w K mg base d_l_law_places 2 p_l_law_places 1 [] false F_l_law_places :=
  OkG.of (N := N_l_law_places) (z.fn 3 rfl) s_l_law_places [1, 7] [] false b_l_law_places (by decide) (by decide) (by decide) (by decide) (df := none) c_l_law_places (fun A hr => ⟨trivial, ⟨⟨trivial, ⟨⟨trivial, ⟨trivial, trivial⟩⟩, ⟨⟨⟨⟨trivial, trivial⟩, trivial⟩, ⟨trivial, trivial⟩, trivial⟩, ⟨⟨⟨(z.free 2 "range" rfl), trivial⟩, ⟨⟨⟨(z.free 2 "range" rfl), trivial⟩, ⟨⟨trivial, ⟨trivial, trivial⟩⟩, ⟨⟨⟨trivial, trivial⟩, ⟨trivial, trivial⟩⟩, ⟨⟨⟨trivial, ⟨⟨trivial, trivial⟩, ⟨⟨trivial, trivial⟩, ⟨⟨trivial, trivial⟩, trivial⟩⟩⟩⟩, trivial⟩, trivial⟩⟩⟩⟩, trivial⟩⟩, trivial⟩⟩⟩⟩, ⟨⟨(z.free 3 "sorted" rfl), trivial⟩, trivial⟩⟩⟩) (fun x h => nomatch h)
theorem ok_check_size (z : Zz w K mg h base) : OkG PP w K mg base d_check_size 3 p_check_size 1 [] false F_check_size :=
  OkG.of (N := N_check_size) (z.fn 4 rfl) s_check_size [] [] false b_check_size (by decide) (by decide) (by decide) (by decide) (df := none) c_check_size (fun A hr => ⟨⟨⟨trivial, trivial⟩, ⟨⟨z.exk (hr.mono (by decide)) 0 "InvalidSize" ["n"] rfl 4 rfl 5 rfl, ⟨trivial, trivial⟩⟩, trivial⟩, trivial⟩, trivial⟩) (fun x h => nomatch h)
theorem ok_depth (z : Zz w K mg h base) : OkG PP w K mg base d_depth 2 p_depth 3 [] false F_depth :=
  OkG.of (N := N_depth) (z.fn 5 rfl) s_depth [] [] false b_depth (by decide) (by decide) (by decide) (by decide) (df := none) c_depth (fun A hr => ⟨trivial, ⟨⟨⟨trivial, trivial⟩, ⟨⟨trivial, trivial⟩, trivial⟩, trivial⟩, ⟨⟨⟨trivial, trivial⟩, ⟨⟨trivial, trivial⟩, trivial⟩, trivial⟩, ⟨⟨⟨trivial, trivial⟩, ⟨⟨trivial, trivial⟩, trivial⟩, trivial⟩, ⟨⟨⟨trivial, trivial⟩, ⟨⟨trivial, trivial⟩, trivial⟩, trivial⟩, ⟨⟨⟨trivial, trivial⟩, ⟨trivial, trivial⟩, ⟨trivial, trivial⟩⟩, trivial⟩⟩⟩⟩⟩⟩) (fun x h => nomatch h)
theorem ok_faces_of (z : Zz w K mg h base) : OkG PP w K mg base d_faces_of 3 p_faces_of 2 [] false F_faces_of :=
  OkG.of (N := N_faces_of) (z.fn 6 rfl) s_faces_of [] [] false b_faces_of (by decide) (by decide) (by decide) (by decide) (df := none) c_faces_of (fun A hr => ⟨⟨(z.gstr 6 "FACES" "RLUDFB" rfl), ⟨⟨(ok_depth z).fnRq "depth" (hr.mono (by decide)) (z.glo 7 "depth" rfl) (bn_depth_3), ⟨trivial, ⟨trivial, ⟨trivial, trivial⟩⟩⟩⟩, trivial⟩, trivial⟩, trivial⟩) (fun x h => nomatch h)
theorem ok_places (z : Zz w K mg h base) : OkG PP w K mg base d_places 4 p_places 1 [] true F_places :=
  OkG.of (N := N_places) (z.fn 7 rfl) s_places [] [] true b_places (by decide) (by decide) (by decide) (by decide) (df := none) c_places (fun A hr => ⟨⟨(ok_check_size z).fnRq "check_size" (hr.mono (by decide)) (z.glo 8 "check_size" rfl) (bn_check_size_1), ⟨trivial, trivial⟩⟩, ⟨⟨⟨trivial, (z.gint 9 "MOST_LISTED" 20 rfl)⟩, ⟨⟨z.exk (hr.mono (by decide)) 1 "TooLarge" ["n"] rfl 10 rfl 5 rfl, ⟨trivial, trivial⟩⟩, trivial⟩, trivial⟩, ⟨⟨⟨⟨⟨(z.free 2 "range" rfl), trivial⟩, trivial⟩, ⟨⟨⟨(z.free 2 "range" rfl), trivial⟩, trivial⟩, ⟨⟨⟨(z.free 2 "range" rfl), trivial⟩, trivial⟩, trivial⟩⟩⟩, ⟨trivial, ⟨trivial, ⟨trivial, trivial⟩⟩⟩⟩, ⟨⟨(z.free 3 "sorted" rfl), ⟨⟨⟨trivial, trivial⟩, ⟨⟨⟨(ok_faces_of z).fnRq "faces_of" (hr.mono (by decide)) (z.glo 11 "faces_of" rfl) (bn_faces_of_2), ⟨trivial, ⟨trivial, trivial⟩⟩⟩, trivial⟩, trivial⟩⟩, ⟨trivial, ⟨trivial, trivial⟩⟩⟩⟩, trivial⟩⟩⟩⟩) (fun x h => nomatch h)
theorem ok_is_place (z : Zz w K mg h base) : OkG PP w K mg base d_is_place 4 p_is_place 2 [] false F_is_place :=
  OkG.of (N := N_is_place) (z.fn 8 rfl) s_is_place [] [] false b_is_place (by decide) (by decide) (by decide) (by decide) (df := none) c_is_place (fun A hr => ⟨⟨(ok_check_size z).fnRq "check_size" (hr.mono (by decide)) (z.glo 8 "check_size" rfl) (bn_check_size_1), ⟨trivial, trivial⟩⟩, ⟨trivial, ⟨⟨⟨⟨trivial, ⟨trivial, ⟨trivial, ⟨trivial, ⟨trivial, ⟨trivial, ⟨trivial, trivial⟩⟩⟩⟩⟩⟩⟩, ⟨⟨(z.free 12 "all" rfl), ⟨⟨⟨trivial, ⟨trivial, ⟨trivial, trivial⟩⟩⟩, trivial, ⟨trivial, trivial, trivial⟩⟩, trivial⟩⟩, trivial⟩⟩, ⟨trivial, trivial⟩, trivial⟩, ⟨⟨⟨(ok_depth z).fnRq "depth" (hr.mono (by decide)) (z.glo 7 "depth" rfl) (bn_depth_3), ⟨trivial, ⟨trivial, ⟨⟨trivial, ⟨trivial, ⟨trivial, trivial⟩⟩⟩, trivial⟩⟩⟩⟩, trivial⟩, trivial⟩⟩⟩⟩) (fun x h => nomatch h)
theorem ok_check_places (z : Zz w K mg h base) : OkG PP w K mg base d_check_places 5 p_check_places 2 [] false F_check_places :=
  OkG.of (N := N_check_places) (z.fn 9 rfl) s_check_places [] [] false b_check_places (by decide) (by decide) (by decide) (by decide) (df := none) c_check_places (fun A hr => ⟨⟨(ok_check_size z).fnRq "check_size" (hr.mono (by decide)) (z.glo 8 "check_size" rfl) (bn_check_size_1), ⟨trivial, trivial⟩⟩, ⟨⟨trivial, ⟨⟨⟨(ok_is_place z).fnRq "is_place" (hr.mono (by decide)) (z.glo 13 "is_place" rfl) (bn_is_place_2), ⟨trivial, ⟨trivial, trivial⟩⟩⟩, ⟨⟨z.exk (hr.mono (by decide)) 2 "InvalidPlace" ["place"] rfl 14 rfl 5 rfl, ⟨trivial, trivial⟩⟩, trivial⟩, trivial⟩, trivial⟩⟩, trivial⟩⟩) (fun x h => nomatch h)
theorem ok_piece (z : Zz w K mg h base) : OkG PP w K mg base d_piece 6 p_piece 2 [] true F_piece :=
  OkG.of (N := N_piece) (z.fn 10 rfl) s_piece [] [] true b_piece (by decide) (by decide) (by decide) (by decide) (df := none) c_piece (fun A hr => ⟨⟨(ok_check_places z).fnRq "check_places" (hr.mono (by decide)) (z.glo 15 "check_places" rfl) (bn_check_places_2), ⟨trivial, ⟨⟨trivial, trivial⟩, trivial⟩⟩⟩, ⟨⟨trivial, trivial, trivial⟩, ⟨⟨(ok_faces_of z).fnRq "faces_of" (hr.mono (by decide)) (z.glo 11 "faces_of" rfl) (bn_faces_of_2), ⟨trivial, ⟨trivial, trivial⟩⟩⟩, ⟨⟨⟨⟨(z.free 0 "len" rfl), ⟨trivial, trivial⟩⟩, trivial⟩, ⟨⟨⟨trivial, ⟨trivial, trivial⟩, trivial⟩, ⟨trivial, ⟨trivial, trivial⟩, trivial⟩⟩, ⟨⟨trivial, ⟨trivial, trivial⟩, trivial⟩, ⟨⟨(z.free 0 "len" rfl), ⟨⟨trivial, ⟨trivial, trivial⟩, trivial⟩, trivial⟩⟩, ⟨⟨trivial, ⟨⟨⟨trivial, trivial⟩, trivial⟩, trivial, trivial⟩⟩, trivial⟩⟩⟩⟩, trivial⟩, ⟨⟨trivial, ⟨⟨trivial, trivial⟩, trivial⟩⟩, ⟨⟨⟨⟨trivial, trivial, trivial⟩, ⟨trivial, trivial, trivial⟩⟩, trivial, ⟨trivial, ⟨trivial, trivial⟩⟩⟩, trivial⟩⟩⟩⟩⟩⟩) (fun x h => nomatch h)
theorem ok_l_law_cells_faces (z : Zz w K mg h base) : OkG PP w K mg base d_l_law_cells_faces 2 p_l_law_cells_faces 2 [] false F_l_law_cells_faces :=
  OkG.of (N := N_l_law_cells_faces) (z.fn 11 rfl) s_l_law_cells_faces [2] [] false b_l_law_cells_faces (by decide) (by decide) (by decide) (by decide) (df := none) c_l_law_cells_faces (fun A hr => ⟨trivial, ⟨⟨⟨(z.free 2 "range" rfl), trivial⟩, ⟨⟨⟨⟨trivial, ⟨trivial, trivial⟩⟩, ⟨⟨⟨trivial, trivial⟩, ⟨trivial, trivial⟩⟩, ⟨trivial, trivial⟩⟩⟩, ⟨⟨⟨trivial, trivial⟩, trivial⟩, trivial⟩, trivial⟩, trivial⟩⟩, ⟨trivial, trivial⟩⟩⟩) (fun x h => nomatch h)
theorem ok_lesser_depth (z : Zz w K mg h base) : OkG PP w K mg base d_lesser_depth 3 p_lesser_depth 3 [] false F_lesser_depth :=
  OkG.of (N := N_lesser_depth) (z.fn 12 rfl) s_lesser_depth [] [] false b_lesser_depth (by decide) (by decide) (by decide) (by decide) (df := none) c_lesser_depth (fun A hr => ⟨⟨(z.free 16 "min" rfl), ⟨⟨trivial, trivial, ⟨(ok_depth z).fnRq "depth" (hr.mono (by decide)) (z.glo 7 "depth" rfl) (bn_depth_3), ⟨trivial, ⟨trivial, ⟨trivial, trivial⟩⟩⟩⟩⟩, trivial⟩⟩, trivial⟩) (fun x h => nomatch h)
theorem ok_kind (z : Zz w K mg h base) : OkG PP w K mg base d_kind 6 p_kind 2 [] false F_kind :=
  OkG.of (N := N_kind) (z.fn 13 rfl) s_kind [] [] false b_kind (by decide) (by decide) (by decide) (by decide) (df := none) c_kind (fun A hr => ⟨⟨(ok_check_places z).fnRq "check_places" (hr.mono (by decide)) (z.glo 15 "check_places" rfl) (bn_check_places_2), ⟨trivial, ⟨⟨trivial, trivial⟩, trivial⟩⟩⟩, ⟨⟨trivial, trivial, trivial⟩, ⟨⟨(z.free 3 "sorted" rfl), ⟨⟨trivial, ⟨trivial, ⟨trivial, trivial⟩⟩⟩, trivial, ⟨(ok_lesser_depth z).fnRq "lesser_depth" (hr.mono (by decide)) (z.glo 17 "lesser_depth" rfl) (bn_lesser_depth_3), ⟨trivial, ⟨trivial, ⟨trivial, trivial⟩⟩⟩⟩⟩⟩, ⟨⟨trivial, ⟨trivial, trivial⟩⟩, ⟨⟨⟨trivial, trivial⟩, ⟨⟨(z.gstr 18 "CORNER" "corner" rfl), trivial⟩, trivial⟩, trivial⟩, ⟨⟨⟨trivial, trivial⟩, ⟨⟨⟨⟨trivial, ⟨trivial, trivial⟩⟩, ⟨trivial, trivial⟩⟩, ⟨(z.gstr 19 "EDGE" "edge" rfl), trivial⟩, ⟨(z.gstr 20 "WING" "wing" rfl), ⟨⟨trivial, trivial⟩, trivial⟩⟩⟩, trivial⟩, trivial⟩, ⟨⟨⟨⟨trivial, ⟨trivial, trivial⟩⟩, ⟨trivial, trivial⟩⟩, ⟨⟨(z.gstr 21 "MIDDLE_CENTRE" "middle" rfl), trivial⟩, trivial⟩, trivial⟩, ⟨⟨(z.gstr 22 "CENTRE" "centre" rfl), ⟨⟨trivial, trivial⟩, ⟨⟨trivial, trivial⟩, trivial⟩⟩⟩, trivial⟩⟩⟩⟩⟩⟩⟩⟩) (fun x h => nomatch h)
theorem ok_l_law_kind (z : Zz w K mg h base) : OkG PP w K mg base d_l_law_kind 2 p_l_law_kind 2 [] false F_l_law_kind :=
  OkG.of (N := N_l_law_kind) (z.fn 14 rfl) s_l_law_kind [] [] false b_l_law_kind (by decide) (by decide) (by decide) (by decide) (df := none) c_l_law_kind (fun A hr => ⟨⟨(z.free 3 "sorted" rfl), ⟨trivial, trivial, ⟨(z.free 16 "min" rfl), ⟨⟨trivial, trivial⟩, ⟨⟨trivial, trivial⟩, trivial⟩⟩⟩⟩⟩, ⟨⟨(z.free 0 "len" rfl), ⟨⟨trivial, ⟨trivial, trivial⟩, trivial⟩, trivial⟩⟩, ⟨⟨⟨trivial, trivial⟩, ⟨⟨trivial, trivial⟩, trivial⟩, trivial⟩, ⟨⟨⟨trivial, trivial⟩, ⟨⟨⟨⟨trivial, ⟨trivial, trivial⟩⟩, ⟨trivial, trivial⟩⟩, ⟨trivial, trivial⟩, ⟨trivial, ⟨⟨trivial, trivial⟩, trivial⟩⟩⟩, trivial⟩, trivial⟩, ⟨⟨⟨⟨trivial, ⟨trivial, trivial⟩⟩, ⟨trivial, trivial⟩⟩, ⟨trivial, trivial⟩, ⟨trivial, ⟨⟨trivial, trivial⟩, ⟨⟨trivial, trivial⟩, trivial⟩⟩⟩⟩, trivial⟩⟩⟩⟩⟩) (fun x h => nomatch h)
theorem ok_l_law_normal (z : Zz w K mg h base) : OkG PP w K mg base d_l_law_normal 2 p_l_law_normal 1 [] false F_l_law_normal :=
  OkG.of (N := N_l_law_normal) (z.fn 15 rfl) s_l_law_normal [] [] false b_l_law_normal (by decide) (by decide) (by decide) (by decide) (df := none) c_l_law_normal (fun A hr => ⟨⟨trivial, ⟨trivial, trivial⟩⟩, ⟨⟨⟨(z.free 2 "range" rfl), trivial⟩, trivial, ⟨⟨trivial, ⟨trivial, trivial⟩⟩, ⟨⟨trivial, ⟨trivial, ⟨trivial, trivial⟩⟩⟩, ⟨trivial, ⟨trivial, trivial⟩⟩⟩, trivial⟩⟩, trivial⟩⟩) (fun x h => nomatch h)
theorem ok_l_law_clockwise (z : Zz w K mg h base) : OkG PP w K mg base d_l_law_clockwise 3 p_l_law_clockwise 3 [] false F_l_law_clockwise :=
  OkG.of (N := N_l_law_clockwise) (z.fn 16 rfl) s_l_law_clockwise [] [] false b_l_law_clockwise (by decide) (by decide) (by decide) (by decide) (df := none) c_l_law_clockwise (fun A hr => ⟨⟨⟨(ok_l_law_normal z).fnRq "_law_normal" (hr.mono (by decide)) (z.glo 23 "_law_normal" rfl) (bn_l_law_normal_1), ⟨trivial, trivial⟩⟩, ⟨⟨(ok_l_law_normal z).fnRq "_law_normal" (hr.mono (by decide)) (z.glo 23 "_law_normal" rfl) (bn_l_law_normal_1), ⟨trivial, trivial⟩⟩, ⟨⟨(ok_l_law_normal z).fnRq "_law_normal" (hr.mono (by decide)) (z.glo 23 "_law_normal" rfl) (bn_l_law_normal_1), ⟨trivial, trivial⟩⟩, trivial⟩⟩⟩, ⟨⟨⟨trivial, trivial⟩, ⟨⟨⟨trivial, trivial⟩, ⟨trivial, trivial⟩⟩, ⟨⟨trivial, trivial⟩, ⟨trivial, trivial⟩⟩⟩⟩, ⟨⟨trivial, ⟨⟨trivial, trivial⟩, ⟨⟨⟨trivial, trivial⟩, ⟨trivial, trivial⟩⟩, ⟨⟨trivial, trivial⟩, ⟨trivial, trivial⟩⟩⟩⟩⟩, ⟨⟨⟨trivial, ⟨⟨trivial, trivial⟩, ⟨⟨⟨trivial, trivial⟩, ⟨trivial, trivial⟩⟩, ⟨⟨trivial, trivial⟩, ⟨trivial, trivial⟩⟩⟩⟩⟩, trivial⟩, trivial⟩⟩⟩⟩) (fun x h => nomatch h)
theorem ok_l_law_place_holds (z : Zz w K mg h base) : OkG PP w K mg base d_l_law_place_holds 7 p_l_law_place_holds 2 [] false F_l_law_place_holds :=
  OkG.of (N := N_l_law_place_holds) (z.fn 17 rfl) s_l_law_place_holds [3] [] false b_l_law_place_holds (by decide) (by decide) (by decide) (by decide) (df := none) c_l_law_place_holds (fun A hr => ⟨⟨trivial, trivial, trivial⟩, ⟨⟨(ok_piece z).fnRq "piece" (hr.mono (by decide)) (z.glo 24 "piece" rfl) (bn_piece_2), ⟨trivial, ⟨trivial, trivial⟩⟩⟩, ⟨⟨trivial, ⟨trivial, trivial⟩⟩, ⟨⟨⟨⟨⟨trivial, trivial⟩, trivial⟩, ⟨⟨⟨(z.free 3 "sorted" rfl), trivial⟩, ⟨(z.free 3 "sorted" rfl), ⟨(ok_l_law_cells_faces z).fnRq "_law_cells_faces" (hr.mono (by decide)) (z.glo 25 "_law_cells_faces" rfl) (bn_l_law_cells_faces_2), ⟨trivial, ⟨trivial, trivial⟩⟩⟩⟩⟩, ⟨⟨⟨(ok_kind z).fnRq "kind" (hr.mono (by decide)) (z.glo 26 "kind" rfl) (bn_kind_2), ⟨trivial, ⟨trivial, trivial⟩⟩⟩, ⟨(ok_l_law_kind z).fnRq "_law_kind" (hr.mono (by decide)) (z.glo 27 "_law_kind" rfl) (bn_l_law_kind_2), ⟨trivial, ⟨trivial, trivial⟩⟩⟩⟩, trivial⟩⟩⟩, ⟨trivial, trivial⟩, trivial⟩, ⟨⟨⟨⟨⟨⟨⟨trivial, trivial, trivial⟩, trivial⟩, trivial⟩, trivial⟩, ⟨⟨(ok_is_place z).fnRq "is_place" (hr.mono (by decide)) (z.glo 13 "is_place" rfl) (bn_is_place_2), ⟨trivial, ⟨trivial, trivial⟩⟩⟩, trivial⟩⟩, ⟨trivial, trivial⟩, trivial⟩, ⟨⟨⟨⟨⟨(z.free 0 "len" rfl), ⟨trivial, trivial⟩⟩, trivial⟩, ⟨⟨(ok_l_law_clockwise z).fnRq "_law_clockwise" (hr.mono (by decide)) (z.glo 28 "_law_clockwise" rfl) (bn_l_law_clockwise_3), ⟨⟨trivial, trivial⟩, ⟨⟨trivial, trivial⟩, ⟨⟨trivial, trivial⟩, trivial⟩⟩⟩⟩, trivial⟩⟩, ⟨trivial, trivial⟩, trivial⟩, ⟨⟨trivial, trivial⟩, ⟨⟨⟨(z.free 0 "len" rfl), ⟨⟨(ok_piece z).fnRq "piece" (hr.mono (by decide)) (z.glo 24 "piece" rfl) (bn_piece_2), ⟨trivial, ⟨trivial, trivial⟩⟩⟩, trivial⟩⟩, ⟨(z.free 0 "len" rfl), ⟨trivial, trivial⟩⟩⟩, trivial⟩⟩⟩⟩⟩⟩⟩⟩) (fun x h => nomatch h)
theorem ok_l_law_none (z : Zz w K mg h base) : OkG PP w K mg base d_l_law_none 3 p_l_law_none 3 [0] false F_l_law_none :=
  OkG.of (N := N_l_law_none) (z.fn 18 rfl) s_l_law_none [0, 3] [0] false b_l_law_none (by decide) (by decide) (by decide) (by decide) (df := none) c_l_law_none (fun A hr => ⟨⟨(z.free 29 "list" rfl), ⟨trivial, trivial, trivial⟩⟩, ⟨⟨(ok_l_law_draw z).fnRq "_law_draw" (hr.mono (by decide)) (z.glo 30 "_law_draw" rfl) (bn_l_law_draw_2), ⟨trivial, trivial⟩⟩, ⟨⟨⟨trivial, trivial⟩, ⟨⟨⟨⟨trivial, ⟨⟨trivial, ⟨trivial, trivial⟩⟩, ⟨trivial, ⟨trivial, trivial⟩⟩⟩⟩, ⟨(ok_l_law_draw z).fnRq "_law_draw" (hr.mono (by decide)) (z.glo 30 "_law_draw" rfl) (bn_l_law_draw_2), ⟨trivial, trivial⟩⟩⟩, trivial⟩, ⟨⟨⟨trivial, trivial⟩, ⟨⟨trivial, trivial⟩, ⟨⟨trivial, trivial⟩, ⟨⟨trivial, trivial⟩, trivial⟩⟩⟩⟩, trivial⟩⟩, trivial⟩, ⟨⟨⟨trivial, ⟨⟨trivial, trivial⟩, trivial⟩⟩, trivial⟩, ⟨⟨⟨trivial, trivial⟩, ⟨⟨⟨⟨trivial, trivial⟩, ⟨trivial, trivial⟩⟩, trivial⟩, ⟨⟨⟨trivial, trivial⟩, ⟨⟨trivial, trivial⟩, ⟨⟨trivial, trivial⟩, ⟨⟨trivial, trivial⟩, trivial⟩⟩⟩⟩, trivial⟩⟩, trivial⟩, ⟨⟨⟨⟨trivial, ⟨trivial, ⟨trivial, ⟨trivial, trivial⟩⟩⟩⟩, ⟨(ok_l_law_draw z).fnRq "_law_draw" (hr.mono (by decide)) (z.glo 30 "_law_draw" rfl) (bn_l_law_draw_2), ⟨trivial, trivial⟩⟩⟩, ⟨⟨trivial, trivial⟩, ⟨⟨trivial, trivial⟩, ⟨⟨trivial, trivial⟩, trivial⟩⟩⟩⟩, trivial⟩⟩⟩⟩⟩⟩) (fun x h => nomatch h)
theorem gr_l_law_refused (z : Zz w K mg h base) {A : Around} (k : Nat) : GRq ⟨PP, w, K, mg, base, A⟩ k g_l_law_refused := by
  obtain ⟨fd, F⟩ := z.fn 19 (f := d_l_law_refused) rfl
  exact ⟨_, fd, _, _, _, F, (z.glo 31 "_law_refused" rfl), s_l_law_refused, rfl, .inl (by decide +kernel), F.bindsN (fun _ _ _ _ _ _ us hl => match us, hl with | [_], _ => rfl), c_l_law_refused, fun A hr => ⟨⟨trivial, trivial⟩, ⟨⟨(z.glo 4 "InvalidSize" rfl), (List.forall_mem_cons.mpr ⟨(z.exm 4 "InvalidSize" "InvalidSize" true rfl), (List.forall_mem_cons.mpr ⟨(z.exm 5 "InvalidPlace" "InvalidSize" false rfl), (List.forall_mem_cons.mpr ⟨(z.exm 6 "TooLarge" "InvalidSize" false rfl), (fun _ h => nomatch h)⟩)⟩)⟩)⟩, fun a => ⟨⟨trivial, ⟨⟨trivial, (List.forall_mem_cons.mpr ⟨(z.xf 3 "InvalidSize" "n" rfl), (fun _ h => nomatch h)⟩)⟩, trivial⟩⟩, trivial⟩, ⟨⟨(z.glo 14 "InvalidPlace" rfl), (List.forall_mem_cons.mpr ⟨(z.exm 8 "InvalidSize" "InvalidPlace" false rfl), (List.forall_mem_cons.mpr ⟨(z.exm 9 "InvalidPlace" "InvalidPlace" true rfl), (List.forall_mem_cons.mpr ⟨(z.exm 10 "TooLarge" "InvalidPlace" false rfl), (fun _ h => nomatch h)⟩)⟩)⟩)⟩, fun a => ⟨⟨trivial, ⟨⟨trivial, (List.forall_mem_cons.mpr ⟨(z.xf 7 "InvalidPlace" "place" rfl), (fun _ h => nomatch h)⟩)⟩, trivial⟩⟩, trivial⟩, ⟨⟨(z.glo 10 "TooLarge" rfl), (List.forall_mem_cons.mpr ⟨(z.exm 12 "InvalidSize" "TooLarge" false rfl), (List.forall_mem_cons.mpr ⟨(z.exm 13 "InvalidPlace" "TooLarge" false rfl), (List.forall_mem_cons.mpr ⟨(z.exm 14 "TooLarge" "TooLarge" true rfl), (fun _ h => nomatch h)⟩)⟩)⟩)⟩, fun a => ⟨⟨trivial, ⟨⟨trivial, (List.forall_mem_cons.mpr ⟨(z.xf 11 "TooLarge" "n" rfl), (fun _ h => nomatch h)⟩)⟩, trivial⟩⟩, trivial⟩, trivial⟩⟩⟩⟩⟩
theorem ok_l_law_no_size (z : Zz w K mg h base) : OkG PP w K mg base d_l_law_no_size 9 p_l_law_no_size 2 [] false F_l_law_no_size :=
  OkG.of (N := N_l_law_no_size) (z.fn 20 rfl) s_l_law_no_size [] [] false b_l_law_no_size (by decide) (by decide) (by decide) (by decide) (df := (some "_law_no_size")) c_l_law_no_size (fun A hr => ⟨⟨⟨⟨6, hr.mono (by decide), gr_l_law_refused z 6, fun A hr => ⟨(ok_kind z).fnRq "kind" (hr.mono (by decide)) (z.glo 26 "kind" rfl) (bn_kind_2), ⟨trivial, ⟨trivial, trivial⟩⟩⟩, z.tbRq rfl 15 rfl⟩, ⟨trivial, ⟨trivial, trivial⟩⟩⟩, ⟨trivial, trivial⟩, trivial⟩, ⟨⟨⟨⟨4, hr.mono (by decide), gr_l_law_refused z 4, fun A hr => ⟨(ok_places z).fnRq "places" (hr.mono (by decide)) (z.glo 32 "places" rfl) (bn_places_1), ⟨trivial, trivial⟩⟩, z.tbRq rfl 15 rfl⟩, ⟨trivial, ⟨trivial, trivial⟩⟩⟩, ⟨trivial, trivial⟩, trivial⟩, ⟨⟨⟨6, hr.mono (by decide), gr_l_law_refused z 6, fun A hr => ⟨(ok_piece z).fnRq "piece" (hr.mono (by decide)) (z.glo 24 "piece" rfl) (bn_piece_2), ⟨trivial, ⟨trivial, trivial⟩⟩⟩, z.tbRq rfl 15 rfl⟩, ⟨trivial, ⟨trivial, trivial⟩⟩⟩, trivial⟩⟩⟩) (fun x h => by cases h; exact ⟨rfl, rfl⟩)
theorem ok_l_law_refusals_hold (z : Zz w K mg h base) : OkG PP w K mg base d_l_law_refusals_hold 10 p_l_law_refusals_hold 4 [0] false F_l_law_refusals_hold :=
  OkG.of (N := N_l_law_refusals_hold) (z.fn 21 rfl) s_l_law_refusals_hold [0] [0] false b_l_law_refusals_hold (by decide) (by decide) (by decide) (by decide) (df := (some "_law_refusals_hold")) c_l_law_refusals_hold (fun A hr => ⟨⟨(ok_l_law_none z).fnRq "_law_none" (hr.mono (by decide)) (z.glo 33 "_law_none" rfl) (bn_l_law_none_3), ⟨trivial, ⟨trivial, trivial⟩⟩⟩, ⟨⟨⟨⟨⟨4, hr.mono (by decide), gr_l_law_refused z 4, fun A hr => ⟨(ok_places z).fnRq "places" (hr.mono (by decide)) (z.glo 32 "places" rfl) (bn_places_1), ⟨⟨trivial, trivial⟩, trivial⟩⟩, z.tbRq rfl 15 rfl⟩, ⟨trivial, ⟨⟨trivial, trivial⟩, trivial⟩⟩⟩, ⟨⟨(ok_is_place z).fnRq "is_place" (hr.mono (by decide)) (z.glo 13 "is_place" rfl) (bn_is_place_2), ⟨trivial, ⟨trivial, trivial⟩⟩⟩, trivial⟩⟩, ⟨trivial, trivial⟩, trivial⟩, ⟨⟨⟨trivial, ⟨trivial, ⟨trivial, trivial⟩⟩⟩, ⟨⟨⟨(ok_l_law_no_size z).fnRq "_law_no_size" (hr.mono (by decide)) (z.glo 34 "_law_no_size" rfl) (bn_l_law_no_size_2), ⟨trivial, ⟨trivial, trivial⟩⟩⟩, ⟨trivial, trivial⟩, trivial⟩, trivial⟩⟩, ⟨⟨⟨⟨6, hr.mono (by decide), gr_l_law_refused z 6, fun A hr => ⟨(ok_piece z).fnRq "piece" (hr.mono (by decide)) (z.glo 24 "piece" rfl) (bn_piece_2), ⟨trivial, ⟨trivial, trivial⟩⟩⟩, z.tbRq rfl 15 rfl⟩, ⟨trivial, ⟨trivial, trivial⟩⟩⟩, ⟨trivial, trivial⟩, trivial⟩, ⟨⟨⟨6, hr.mono (by decide), gr_l_law_refused z 6, fun A hr => ⟨(ok_kind z).fnRq "kind" (hr.mono (by decide)) (z.glo 26 "kind" rfl) (bn_kind_2), ⟨trivial, ⟨trivial, trivial⟩⟩⟩, z.tbRq rfl 15 rfl⟩, ⟨trivial, ⟨trivial, trivial⟩⟩⟩, trivial⟩⟩⟩⟩⟩) (fun x h => by cases h; exact ⟨rfl, rfl⟩)
theorem ok_law (z : Zz w K mg h base) : OkG PP w K mg base d_law 11 p_law 1 [] false F_law :=
  OkG.of (N := N_law) (z.fn 22 rfl) s_law [1, 5, 10] [] false b_law (by decide) (by decide) (by decide) (by decide) (df := none) c_law (fun A hr => ⟨⟨(ok_l_law_source z).fnRq "_law_source" (hr.mono (by decide)) (z.glo 36 "_law_source" rfl) (bn_l_law_source_1), ⟨⟨(ok_l_law_cell z).fnRq "_law_cell" (hr.mono (by decide)) (z.glo 35 "_law_cell" rfl) (bn_l_law_cell_2), ⟨trivial, ⟨trivial, trivial⟩⟩⟩, trivial⟩⟩, ⟨⟨⟨(ok_l_law_cell z).fnRq "_law_cell" (hr.mono (by decide)) (z.glo 35 "_law_cell" rfl) (bn_l_law_cell_2), ⟨trivial, ⟨trivial, trivial⟩⟩⟩, ⟨trivial, trivial⟩⟩, ⟨⟨trivial, ⟨(ok_l_law_draw z).fnRq "_law_draw" (hr.mono (by decide)) (z.glo 30 "_law_draw" rfl) (bn_l_law_draw_2), ⟨trivial, trivial⟩⟩⟩, ⟨⟨(ok_l_law_places z).fnRq "_law_places" (hr.mono (by decide)) (z.glo 37 "_law_places" rfl) (bn_l_law_places_1), ⟨trivial, trivial⟩⟩, ⟨⟨(ok_places z).fnRq "places" (hr.mono (by decide)) (z.glo 32 "places" rfl) (bn_places_1), ⟨trivial, trivial⟩⟩, ⟨⟨⟨⟨trivial, trivial⟩, ⟨⟨⟨(z.free 0 "len" rfl), ⟨trivial, trivial⟩⟩, ⟨⟨trivial, trivial⟩, trivial⟩⟩, trivial⟩⟩, ⟨trivial, trivial⟩, trivial⟩, ⟨trivial, ⟨⟨trivial, ⟨⟨⟨(ok_l_law_place_holds z).fnRq "_law_place_holds" (hr.mono (by decide)) (z.glo 38 "_law_place_holds" rfl) (bn_l_law_place_holds_2), ⟨trivial, ⟨trivial, trivial⟩⟩⟩, ⟨trivial, trivial⟩, trivial⟩, trivial⟩⟩, ⟨⟨⟨⟨(ok_l_law_draw z).fnRq "_law_draw" (hr.mono (by decide)) (z.glo 30 "_law_draw" rfl) (bn_l_law_draw_2), ⟨trivial, trivial⟩⟩, trivial⟩, ⟨⟨trivial, ⟨(ok_l_law_draw z).fnRq "_law_draw" (hr.mono (by decide)) (z.glo 30 "_law_draw" rfl) (bn_l_law_draw_2), ⟨trivial, trivial⟩⟩⟩, ⟨⟨⟨⟨⟨(ok_places z).fnRq "places" (hr.mono (by decide)) (z.glo 32 "places" rfl) (bn_places_1), ⟨trivial, trivial⟩⟩, ⟨(ok_l_law_places z).fnRq "_law_places" (hr.mono (by decide)) (z.glo 37 "_law_places" rfl) (bn_l_law_places_1), ⟨trivial, trivial⟩⟩⟩, ⟨⟨⟨(z.free 0 "len" rfl), ⟨⟨(ok_places z).fnRq "places" (hr.mono (by decide)) (z.glo 32 "places" rfl) (bn_places_1), ⟨trivial, trivial⟩⟩, trivial⟩⟩, trivial⟩, trivial⟩⟩, ⟨trivial, trivial⟩, trivial⟩, trivial⟩⟩, trivial⟩, ⟨⟨trivial, trivial⟩, ⟨⟨⟨(z.free 2 "range" rfl), trivial⟩, ⟨⟨(ok_l_law_draw z).fnRq "_law_draw" (hr.mono (by decide)) (z.glo 30 "_law_draw" rfl) (bn_l_law_draw_2), ⟨trivial, trivial⟩⟩, ⟨⟨⟨(z.free 2 "range" rfl), trivial⟩, trivial, ⟨⟨trivial, ⟨trivial, ⟨⟨trivial, trivial⟩, ⟨⟨trivial, trivial⟩, ⟨⟨trivial, trivial⟩, ⟨⟨⟨trivial, trivial⟩, trivial⟩, ⟨⟨trivial, trivial⟩, trivial⟩⟩⟩⟩⟩⟩⟩, ⟨(ok_l_law_draw z).fnRq "_law_draw" (hr.mono (by decide)) (z.glo 30 "_law_draw" rfl) (bn_l_law_draw_2), ⟨trivial, trivial⟩⟩⟩⟩, ⟨⟨⟨⟨⟨trivial, trivial⟩, ⟨trivial, trivial⟩⟩, ⟨trivial, trivial⟩⟩, ⟨trivial, trivial⟩⟩, ⟨⟨⟨(ok_l_law_place_holds z).fnRq "_law_place_holds" (hr.mono (by decide)) (z.glo 38 "_law_place_holds" rfl) (bn_l_law_place_holds_2), ⟨trivial, ⟨⟨⟨trivial, trivial⟩, ⟨⟨trivial, trivial⟩, ⟨⟨trivial, trivial⟩, ⟨⟨trivial, trivial⟩, trivial⟩⟩⟩⟩, trivial⟩⟩⟩, ⟨trivial, trivial⟩, trivial⟩, trivial⟩⟩⟩⟩⟩, ⟨⟨(ok_l_law_refusals_hold z).fnRq "_law_refusals_hold" (hr.mono (by decide)) (z.glo 39 "_law_refusals_hold" rfl) (bn_l_law_refusals_hold_4), ⟨trivial, ⟨trivial, ⟨⟨trivial, ⟨⟨trivial, trivial⟩, ⟨⟨trivial, trivial⟩, ⟨trivial, trivial⟩⟩⟩⟩, trivial⟩⟩⟩⟩, trivial⟩⟩⟩⟩⟩⟩⟩⟩⟩⟩⟩⟩) (fun x h => nomatch h)
end
end C

set_option maxRecDepth 100000
set_option maxHeartbeats 4000000
namespace C
open PySem L2
theorem cell_eq (ns : List Int) (i : Nat) : F_l_law_cell [.scr ns, .int i] = .ret (.int (ns.getD i 0)) [] := by
  unfold F_l_law_cell runF b_l_law_cell
  by_cases h : i < ns.length
  · have h' : (i : Int) < ns.length := by omega
    simp [env0, h', atI_cast, h]
  · have h' : ¬ (i : Int) < ns.length := by omega
    simp [env0, h']
    simp at h
    simp [h]
/-- a source of draws -/
def Src (d : D) : Prop := ∃ s : Int, d = .lst [.int s, .int 1] ∨ (d = .lst [.int s, .int 0] ∧ 0 ≤ s ∧ s < 2147483647)
theorem source_ok (i : Int) : ∃ s, Src s ∧ F_l_law_source [.int i] = .ret s [] := by
  unfold F_l_law_source runF b_l_law_source
  have hp : powB 10 18 = true := by decide
  by_cases h : (1000000000000000000 : Int) ≤ i
  · refine ⟨.lst [.int i, .int 1], ⟨i, .inl rfl⟩, ?_⟩
    simp [env0, hp, h, sizeLine]
  · refine ⟨.lst [.int ((i * 16807 + 694847539) % 2147483647), .int 0], ⟨_, .inr ⟨rfl, by omega, by omega⟩⟩, ?_⟩
    simp [env0, hp, h, sizeLine, mulB_r]
theorem divB_big {j : Int} (h : 0 < j) (h2 : j < 2 ^ 100) : divB j = true := by
  unfold divB
  have : j.natAbs.log2 < 9000 := by
    have h3 : j.natAbs < 2 ^ 100 := by omega
    by_cases h0 : j.natAbs = 0
    · rw [h0]; decide
    · exact Nat.lt_of_lt_of_le ((Nat.log2_lt h0).mpr h3) (by decide)
  rw [decide_eq_true h, decide_eq_true this]; rfl
theorem draw_ok {s : D} (hs : Src s) (l : Int) (h1 : 0 < l) (h2 : l < 2 ^ 100) : ∃ v s', 0 ≤ v ∧ v < l ∧ Src s' ∧ F_l_law_draw [s, .int l] = .ret (.int v) [s'] := by
  unfold F_l_law_draw runF b_l_law_draw
  have hd := divB_big h1 h2
  obtain ⟨x, rfl | ⟨rfl, h3, h4⟩⟩ := hs
  · refine ⟨x % l, .lst [.int (x / l), .int 1], Int.emod_nonneg _ (by omega), Int.emod_lt_of_pos _ h1, ⟨_, .inl rfl⟩, ?_⟩
    simp [env0, h1, hd, evSet, storeD, ixN]
  · have hp : ∀ y : Int, powB (y % 2147483647) 5 = true := fun y => by
      unfold powB
      have : (y % 2147483647).natAbs < 2 ^ 64 := by omega
      simp [this]
    have hd2 : divB 16 = true := by decide
    refine ⟨((x * 69621 + 694847539) % 2147483647) ^ 5 % 2147483647 / 16 % l, .lst [.int ((x * 69621 + 694847539) % 2147483647), .int 0], Int.emod_nonneg _ (by omega), Int.emod_lt_of_pos _ h1, ⟨_, .inr ⟨rfl, by omega, by omega⟩⟩, ?_⟩
    simp [env0, h1, hd2, evSet, storeD, ixN, mulB_r, hp]
theorem rangeD_len (n : Int) : (rangeD 0 n).length = n.toNat := by simp [rangeD]
theorem rgB_small {n : Int} (h : -1000000 ≤ n) (h2 : n < 1000000) : rgB n = true := by
  unfold rgB
  simp
  omega
theorem rangeD_mem {n : Nat} {x : D} (h : x ∈ rangeD 0 (n : Int)) : ∃ k : Nat, k < n ∧ x = .int (k : Int) := by
  unfold rangeD at h
  obtain ⟨k, hk, rfl⟩ := List.mem_map.mp h
  have := List.mem_range.mp hk
  exact ⟨k, by omega, by simp⟩
end C

set_option maxRecDepth 100000
set_option maxHeartbeats 4000000
namespace C
open PySem L2
/-! the six faces -/
inductive Fc | R | L | U | D | F | B deriving DecidableEq
def fs : Fc → Str
  | .R => "R" | .L => "L" | .U => "U" | .D => "D" | .F => "F" | .B => "B"
def isFace (x : Str) : Bool := inV (.str x) [.str "R", .str "L", .str "U", .str "D", .str "F", .str "B"]
theorem face_in (x : Str) : cNotIn.f (.str x) (.tup [.str "R", .str "L", .str "U", .str "D", .str "F", .str "B"]) = some (!isFace x) := rfl
theorem fs_face (f : Fc) : isFace (fs f) = true := by cases f <;> decide +kernel
theorem face_fs {x : Str} (h : isFace x = true) : ∃ f, x = fs f := by
  unfold isFace inV at h
  simp [eqV] at h
  rcases h with h | h | h | h | h | h
  · exact ⟨.R, h.symm⟩
  · exact ⟨.L, h.symm⟩
  · exact ⟨.U, h.symm⟩
  · exact ⟨.D, h.symm⟩
  · exact ⟨.F, h.symm⟩
  · exact ⟨.B, h.symm⟩
theorem fs_inj {a b : Fc} : fs a = fs b ↔ a = b := by
  refine ⟨fun h => ?_, fun h => by rw [h]⟩
  cases a <;> cases b <;> first | rfl | exact absurd h (by decide +kernel)
theorem fs_ok (f : Fc) : PyData.strOk (fs f) = true := by cases f <;> decide +kernel
def nf : Fc → Fc → Fc
  | .R, .F => .U | .R, .U => .B | .R, .B => .D | .R, .D => .F
  | .L, .F => .D | .L, .D => .B | .L, .B => .U | .L, .U => .F
  | .U, .F => .L | .U, .L => .B | .U, .B => .R | .U, .R => .F
  | .D, .F => .R | .D, .R => .B | .D, .B => .L | .D, .L => .F
  | .F, .U => .R | .F, .R => .D | .F, .D => .L | .F, .L => .U
  | .B, .U => .L | .B, .L => .D | .B, .D => .R | .B, .R => .U
  | _, x => x
def nfs (b : Fc) : Nat → Fc → Fc
  | 0, f => f
  | k + 1, f => nfs b k (nf b f)
theorem side_fc {v : Int} (h0 : 0 ≤ v) (h1 : v < 6) : ∃ f : Fc, fIx (.str "RLUDFB") (.int v) = some (.str (fs f)) := by
  rcases (by omega : v = 0 ∨ v = 1 ∨ v = 2 ∨ v = 3 ∨ v = 4 ∨ v = 5) with rfl | rfl | rfl | rfl | rfl | rfl
  · exact ⟨.R, by kernel_rfl⟩
  · exact ⟨.L, by kernel_rfl⟩
  · exact ⟨.U, by kernel_rfl⟩
  · exact ⟨.D, by kernel_rfl⟩
  · exact ⟨.F, by kernel_rfl⟩
  · exact ⟨.B, by kernel_rfl⟩
/-- the number of a face in "RLUDFB" -/
def fcN : Fc → Nat
  | .R => 0 | .L => 1 | .U => 2 | .D => 3 | .F => 4 | .B => 5
def nFc (v : Int) : Fc := if v = 0 then .R else if v = 1 then .L else if v = 2 then .U else if v = 3 then .D else if v = 4 then .F else .B
theorem side_n {v : Int} (h0 : 0 ≤ v) (h1 : v < 6) : fIx (.str "RLUDFB") (.int v) = some (.str (fs (nFc v))) := by
  rcases (by omega : v = 0 ∨ v = 1 ∨ v = 2 ∨ v = 3 ∨ v = 4 ∨ v = 5) with rfl | rfl | rfl | rfl | rfl | rfl <;> kernel_rfl
theorem find_fc (f : Fc) : Txt.find "RLUDFB" (fs f) = (fcN f : Int) := by cases f <;> kernel_rfl
/-- a turn, plainly -/
structure Tn where
  k : Str
  f : Fc
  a : Int
  b : Int
  m : Int
  deriving DecidableEq
def turnD (k f : Str) (a b q : Int) : D := .ins "Turn" [("kind", .str k), ("face", .str f), ("first", .int a), ("last", .int b), ("quarters", .int q), ("parts", .tup [.str k, .str f, .int a, .int b, .int q])]
@[simp] theorem fld_kind (k f : Str) (a b q : Int) : fldD ["Turn"] "kind" (turnD k f a b q) = some (.str k) := rfl
@[simp] theorem fld_face (k f : Str) (a b q : Int) : fldD ["Turn"] "face" (turnD k f a b q) = some (.str f) := rfl
@[simp] theorem fld_first (k f : Str) (a b q : Int) : fldD ["Turn"] "first" (turnD k f a b q) = some (.int a) := rfl
@[simp] theorem fld_last (k f : Str) (a b q : Int) : fldD ["Turn"] "last" (turnD k f a b q) = some (.int b) := rfl
@[simp] theorem fld_quarters (k f : Str) (a b q : Int) : fldD ["Turn"] "quarters" (turnD k f a b q) = some (.int q) := rfl
@[simp] theorem fld_parts (k f : Str) (a b q : Int) : fldD ["Turn"] "parts" (turnD k f a b q) = some (.tup [.str k, .str f, .int a, .int b, .int q]) := rfl
@[simp] theorem isIns_turn (k f : Str) (a b q : Int) : isIns "Turn" (turnD k f a b q) = true := rfl
def Tn.d (t : Tn) : D := turnD t.k (fs t.f) t.a t.b t.m
@[simp] theorem isIns_t (t : Tn) : isIns "Turn" t.d = true := rfl
@[simp] theorem fld_kind_t (t : Tn) : fldD ["Turn"] "kind" t.d = some (.str t.k) := rfl
@[simp] theorem fld_face_t (t : Tn) : fldD ["Turn"] "face" t.d = some (.str (fs t.f)) := rfl
@[simp] theorem fld_first_t (t : Tn) : fldD ["Turn"] "first" t.d = some (.int t.a) := rfl
@[simp] theorem fld_last_t (t : Tn) : fldD ["Turn"] "last" t.d = some (.int t.b) := rfl
@[simp] theorem fld_quarters_t (t : Tn) : fldD ["Turn"] "quarters" t.d = some (.int t.m) := rfl
@[simp] theorem look_mv (t : Tn) : insLook "Turn" "moves" t.d = true := rfl
@[simp] theorem look_led (t : Tn) : insLook "Turn" "led" t.d = true := rfl
@[simp] theorem look_sn (t : Tn) : insLook "Turn" "seen" t.d = true := rfl
@[simp] theorem look_ft (t : Tn) : insLook "Turn" "fits" t.d = true := rfl
@[simp] theorem look_inv (t : Tn) : insLook "Turn" "inverse" t.d = true := rfl
@[simp] theorem look_mir (t : Tn) : insLook "Turn" "mirrored" t.d = true := rfl
structure Tn.ok (t : Tn) : Prop where
  hk : t.k = "layers" ∨ t.k = "middle" ∨ t.k = "whole"
  hl : t.k = "layers" → 1 ≤ t.a ∧ t.a ≤ t.b
  hn : t.k ≠ "layers" → t.a = 0 ∧ t.b = 0
  hm : t.m = 1 ∨ t.m = 2 ∨ t.m = 3
theorem Tn.ok.m4 {t : Tn} (p : t.ok) : t.m % 4 = t.m := by have := p.hm; omega
theorem Tn.ok.m0 {t : Tn} (p : t.ok) : t.m % 4 ≠ 0 := by have := p.hm; omega
theorem kind_ok {k : Str} (h : k = "layers" ∨ k = "middle" ∨ k = "whole") : PyData.strOk k = true := by
  rcases h with rfl | rfl | rfl <;> decide +kernel
def Tn.p (t : Tn) : D := .lst [.str t.k, .str (fs t.f), .int t.a, .int t.b, .int t.m]
def scrD (ts : List D) : D := .ins "Script" [("turns", .tup ts)]
@[simp] theorem fld_turns (ts : List D) : fldD ["Script"] "turns" (scrD ts) = some (.tup ts) := rfl
@[simp] theorem isIns_scr (ts : List D) : isIns "Script" (scrD ts) = true := rfl
@[simp] theorem right_scr (ts : List D) : rightI "Script" (scrD ts) = true := rfl
@[simp] theorem look_ssn (ts : List D) : insLook "Script" "seen" (scrD ts) = true := rfl
@[simp] theorem look_sft (ts : List D) : insLook "Script" "fits" (scrD ts) = true := rfl
@[simp] theorem look_sled (ts : List D) : insLook "Script" "led" (scrD ts) = true := rfl
def sD (ts : List Tn) : D := scrD (ts.map Tn.d)
@[simp] theorem isIns_s (ts : List Tn) : isIns "Script" (sD ts) = true := rfl
@[simp] theorem look_ssn_s (ts : List Tn) : insLook "Script" "seen" (sD ts) = true := rfl
@[simp] theorem look_sft_s (ts : List Tn) : insLook "Script" "fits" (sD ts) = true := rfl
@[simp] theorem look_sled_s (ts : List Tn) : insLook "Script" "led" (sD ts) = true := rfl
@[simp] theorem fld_turns_s (ts : List Tn) : fldD ["Script"] "turns" (sD ts) = some (.tup (ts.map Tn.d)) := rfl
/-- a place, plainly -/
structure Pl where
  f : Fc
  x : Int
  y : Int
  z : Int
  deriving DecidableEq
def Pl.d (p : Pl) : D := .tup [.str (fs p.f), .int p.x, .int p.y, .int p.z]
def cD (x y z : Int) : D := .tup [.int x, .int y, .int z]
def dep (n : Int) : Fc → Int → Int → Int → Int
  | .R, x, _, _ => n - x
  | .L, x, _, _ => x + 1
  | .U, _, y, _ => n - y
  | .D, _, y, _ => y + 1
  | .F, _, _, z => n - z
  | .B, _, _, z => z + 1
def Pl.dp (n : Int) (p : Pl) (f : Fc) : Int := dep n f p.x p.y p.z
structure Pl.ok (n : Int) (p : Pl) : Prop where
  hx : 0 ≤ p.x ∧ p.x < n
  hy : 0 ≤ p.y ∧ p.y < n
  hz : 0 ≤ p.z ∧ p.z < n
  hd : p.dp n p.f = 1
/-- a quarter -/
def Pl.qt (n : Int) (b : Fc) (p : Pl) : Pl := match b with
  | .R => ⟨nf .R p.f, p.x, p.z, n - 1 - p.y⟩
  | .L => ⟨nf .L p.f, p.x, n - 1 - p.z, p.y⟩
  | .U => ⟨nf .U p.f, n - 1 - p.z, p.y, p.x⟩
  | .D => ⟨nf .D p.f, p.z, p.y, n - 1 - p.x⟩
  | .F => ⟨nf .F p.f, p.y, n - 1 - p.x, p.z⟩
  | .B => ⟨nf .B p.f, n - 1 - p.y, p.x, p.z⟩
def Pl.qts (n : Int) (b : Fc) : Nat → Pl → Pl
  | 0, p => p
  | k + 1, p => Pl.qts n b k (p.qt n b)
def Tn.mv (n : Int) (t : Tn) (p : Pl) : Bool :=
  if t.k = "middle" then decide (2 * p.dp n t.f = n + 1) else if t.k = "whole" then true else decide (t.a ≤ p.dp n t.f) && decide (p.dp n t.f ≤ t.b)
def Tn.led (n : Int) (t : Tn) (p : Pl) : Pl := if t.mv n p = true then p.qts n t.f t.m.toNat else p
def ledS (n : Int) (ts : List Tn) (p : Pl) : Pl := ts.foldl (fun p t => t.led n p) p
theorem Pl.ok.qt {n : Int} {p : Pl} (h : p.ok n) (b : Fc) : (p.qt n b).ok n := by
  obtain ⟨f, x, y, z⟩ := p
  obtain ⟨hx, hy, hz, hd⟩ := h
  simp only [Pl.dp] at hx hy hz hd
  cases b <;> cases f <;> simp only [Pl.qt, nf, dep] at hd ⊢ <;> refine ⟨?_, ?_, ?_, ?_⟩ <;> simp only [Pl.dp, dep] <;> omega
theorem Pl.ok.qts {n : Int} (b : Fc) : ∀ (k : Nat) {p : Pl}, p.ok n → (p.qts n b k).ok n
  | 0, p, h => h
  | k + 1, p, h => Pl.ok.qts b k (h.qt b)
theorem Pl.ok.led {n : Int} {p : Pl} (h : p.ok n) (t : Tn) : (t.led n p).ok n := by
  unfold Tn.led
  split
  · exact h.qts t.f _
  · exact h
theorem Pl.ok.ledS {n : Int} : ∀ (ts : List Tn) {p : Pl}, p.ok n → (ledS n ts p).ok n
  | [], p, h => h
  | t :: l, p, h => Pl.ok.ledS l (h.led t)
end C

set_option maxRecDepth 100000
set_option maxHeartbeats 4000000
namespace C
open PySem L2
theorem depth_eq (n : Int) (f : Fc) (x y z : Int) : F_depth [.int n, .str (fs f), cD x y z] = .ret (.int (dep n f x y z)) [] := by
  unfold F_depth runF b_depth cD
  cases f <;> simp [env0, fs, dep]
end C

set_option maxRecDepth 100000
set_option maxHeartbeats 4000000
namespace C
open PySem L2
/-! is_place, check_places -/
theorem check_ok {n : Int} (hn : 2 ≤ n) : F_check_size [.int n] = .ret .non [] := by
  unfold F_check_size runF b_check_size
  have : ¬ n < 2 := by omega
  simp [env0, this]
theorem check_bad {n : Int} (hn : n < 2) : F_check_size [.int n] = .exc "InvalidSize" [("n", .int n)] [] := by
  unfold F_check_size runF b_check_size
  simp [env0, hn, sizeLine]
def cooB (n x : Int) : Bool := decide (0 ≤ x) && decide (x < n)
theorem inB_ev (n c : Int) {env : Env} {i j : Nat} (hi : env[i]? = some (some (.int c))) (hj : env[j]? = some (some (.int n))) : (CE.chain cLe cLt (CE.int 0) (CE.var i) (CE.var j)).ev env = .ok (.bl (cooB n c)) env := by
  unfold cooB
  by_cases h0 : 0 ≤ c <;> simp [evChain, hi, hj, h0]
theorem is_place_eq {n : Int} (hn : 2 ≤ n) (f : Fc) (x y z : Int) : F_is_place [.int n, .tup [.str (fs f), .int x, .int y, .int z]] = .ret (.bl (cooB n x && (cooB n y && (cooB n z && decide (dep n f x y z = 1))))) [] := by
  have hc := check_ok hn
  have hd := depth_eq n f x y z
  have hb : bAll.f [.lst (([x, y, z] : List Int).map fun c => D.bl (cooB n c))] = some (.bl ([x, y, z].all (cooB n))) := by
    unfold bAll
    simp [allF, blsD]
  unfold F_is_place runF b_is_place
  unfold cD at hd
  simp [env0, evCall, hc, sizeLine, face_in, fs_face]
  rw [lc_ok D.int (fun c => D.bl (cooB n c)) [x, y, z] (by simp [sizeLine]) (fun c _ => inB_ev n c (by simp) (by simp)) (by simp) (by unfold sizeLine; simp)]
  simp only [List.map_cons, List.map_nil] at hb ⊢
  simp [hb]
  cases h1 : cooB n x <;> cases h2 : cooB n y <;> cases h3 : cooB n z <;> simp [h1, h2, h3, evCall, hd, sizeLine]
theorem is_place_ok {n : Int} (hn : 2 ≤ n) {p : Pl} (h : p.ok n) : F_is_place [.int n, p.d] = .ret (.bl true) [] := by
  have := is_place_eq hn p.f p.x p.y p.z
  unfold Pl.d
  rw [this]
  obtain ⟨hx, hy, hz, hd⟩ := h
  unfold Pl.dp at hd
  unfold cooB
  simp [hx, hy, hz, hd]
theorem check_places1 {n : Int} (hn : 2 ≤ n) {p : Pl} (h : p.ok n) : F_check_places [.int n, .lst [p.d]] = .ret .non [] := by
  have hc := check_ok hn
  have hi := is_place_ok hn h
  unfold F_check_places runF b_check_places
  simp [env0, evCall, hc, forE, hi]
end C

set_option maxRecDepth 100000
set_option maxHeartbeats 4000000
namespace C
open PySem L2 PySem.W PyProof.Rows
/-! sorted lists, plainly -/
theorem eachB {α : Type} (φ : α → D) (ψ : α → PyData) (h : ∀ x, datOf (φ x) = some (ψ x)) : ∀ l : List α, datsOf (l.map φ) = some (l.map ψ)
  | [] => rfl
  | x :: l => by rw [List.map_cons, datsOf_cons, h x, eachB φ ψ h l]; rfl
theorem sortB_of {α : Type} (φ : α → D) (ψ : α → PyData) (h : ∀ x, datOf (φ x) = some (ψ x)) (ha : ∀ x y, alike (ψ x) (ψ y) = true) (ht : (∀ x, isT1 (ψ x) = true) ∨ ∀ x, isNT (ψ x) = true) (hd : ∀ x, (ψ x).depth ≤ 50) {l : List α} (hl : l.length ≤ sizeLine) : sortB (l.map φ) = true := by
  unfold sortB
  rw [eachB φ ψ h l]
  dsimp only
  have h1 : ((l.map ψ).all fun d => (l.map ψ).all fun e => alike d e) = true := by
    simp only [List.all_map, List.all_eq_true, Function.comp_apply]
    exact fun x _ y _ => ha x y
  have h2 : ((l.map ψ).all isT1 || (l.map ψ).all isNT) = true := by
    rcases ht with ht | ht
    · have : (l.map ψ).all isT1 = true := by simp only [List.all_map, List.all_eq_true, Function.comp_apply]; exact fun x _ => ht x
      rw [this]; rfl
    · have : (l.map ψ).all isNT = true := by simp only [List.all_map, List.all_eq_true, Function.comp_apply]; exact fun x _ => ht x
      rw [this]; simp
  have h3 : ((l.map ψ).all fun b => decide (b.depth ≤ 50)) = true := by
    simp only [List.all_map, List.all_eq_true, Function.comp_apply]
    exact fun x _ => decide_eq_true (hd x)
  have h4 : decide ((l.map φ).length ≤ sizeLine) = true := decide_eq_true (by rw [List.length_map]; exact hl)
  rw [h1, h2, h3, h4]
  rfl
/-- what sorted gives: the one list in order with these items -/
theorem sort_is {α : Type} (φ : α → D) (lt : α → α → Bool) (h : ∀ x y, dataLt (encD (φ x)) (encD (φ y)) = lt x y) (anti : ∀ x y, lt x y = false → lt y x = false → x = y) (tr : ∀ x y z, lt y x = false → lt z y = false → lt z x = false) (as : ∀ x y, lt x y = true → lt y x = false)
    {l m : List α} (hp : m.Perm l) (hs : m.Pairwise fun x y => lt y x = false) : (l.map φ).mergeSort (dataLe false encD) = m.map φ := by
  have e : (l.map φ).mergeSort (dataLe false encD) = (l.mergeSort fun a b => !lt b a).map φ := by
    refine (sort_maps φ fun a _ b _ => ?_).symm
    rw [dataLe_eq]
    show (!lt b a) = (!dataLt (encD (φ b)) (encD (φ a)))
    rw [h]
  rw [e]
  congr 1
  refine List.Perm.eq_of_pairwise (le := fun x y => lt y x = false) (fun a b _ _ h1 h2 => anti a b h2 h1) ?_ hs ((List.mergeSort_perm l _).trans hp.symm)
  have := List.pairwise_mergeSort (le := fun a b => !lt b a) (fun a b c h1 h2 => by
    simp only [Bool.not_eq_true'] at h1 h2 ⊢
    exact tr a b c h1 h2) (fun a b => by
    cases q : lt b a with
    | false => rfl
    | true => rw [as b a q]; rfl) l
  exact this.imp fun h => by simpa using h
/-! ints -/
theorem int_lt (x y : Int) : dataLt (encD (.int x)) (encD (.int y)) = decide (x < y) := dataLt_int x y
theorem sortD_ints {l m : List Int} (hp : m.Perm l) (hs : m.Pairwise (· ≤ ·)) (hl : l.length ≤ sizeLine) : sortD (.lst (l.map D.int)) = some (.lst (m.map D.int)) := by
  show (if sortB (l.map D.int) = true then some (D.lst ((l.map D.int).mergeSort (dataLe false encD))) else none) = _
  rw [if_pos (sortB_of D.int PyData.int (fun _ => rfl) (fun _ _ => by simp [alike]) (.inr fun _ => rfl) (fun _ => by simp [PyData.depth]) hl)]
  rw [sort_is D.int (fun x y => decide (x < y)) int_lt (fun x y h1 h2 => by simp at h1 h2; omega) (fun x y z h1 h2 => by simp at h1 h2 ⊢; omega) (fun x y h => by simp at h ⊢; omega) hp (hs.imp fun h => by simp; omega)]
/-! places -/
def fcO : Fc → Int
  | .B => 0 | .D => 1 | .F => 2 | .L => 3 | .R => 4 | .U => 5
theorem fcO_inj {a b : Fc} (h : fcO a = fcO b) : a = b := by cases a <;> cases b <;> first | rfl | (simp [fcO] at h)
def plLt (p q : Pl) : Bool := decide (fcO p.f < fcO q.f ∨ (fcO p.f = fcO q.f ∧ (p.x < q.x ∨ (p.x = q.x ∧ (p.y < q.y ∨ (p.y = q.y ∧ p.z < q.z))))))
def Pl.py (p : Pl) : PyData := .tuple [.str (fs p.f), .int p.x, .int p.y, .int p.z]
theorem dat_pl (p : Pl) : datOf p.d = some p.py := rfl
theorem enc_pl (p : Pl) : encD p.d = p.py := rfl
theorem fs_lt (f g : Fc) : dataLt (.str (fs f)) (.str (fs g)) = decide (fcO f < fcO g) := by
  rw [dataLt_str]
  cases f <;> cases g <;> decide +kernel
theorem fs_eqv (f g : Fc) : PyData.eqv (.str (fs f)) (.str (fs g)) = decide (fcO f = fcO g) := by
  have : PyData.eqv (.str (fs f)) (.str (fs g)) = decide (fs f = fs g) := by
    rw [show PyData.eqv (.str (fs f)) (.str (fs g)) = (fs f == fs g) from by simp [PyData.eqv]]
    by_cases h : fs f = fs g <;> simp [h]
  rw [this]
  cases f <;> cases g <;> decide +kernel
theorem pl_lt (p q : Pl) : dataLt (encD p.d) (encD q.d) = plLt p q := by
  rw [enc_pl, enc_pl]
  unfold Pl.py
  have a1 : alike (.str (fs p.f)) (.str (fs q.f)) = true := by simp [alike]
  have a2 : ∀ x y : Int, alike (.int x) (.int y) = true := fun x y => by simp [alike]
  have e0 : PyProof.Rows.lexLt itemOrd (keyToksAll []) (keyToksAll []) = false := lex_irrefl _
  have ei : ∀ x y : Int, PyData.eqv (.int x) (.int y) = decide (x = y) := fun x y => by
    rw [show PyData.eqv (.int x) (.int y) = (x == y) from by simp [PyData.eqv]]
    by_cases h : x = y <;> simp [h]
  rw [dataLt_tuple, dataLt_cons a1, dataLt_cons (a2 _ _), dataLt_cons (a2 _ _), dataLt_cons (a2 _ _), e0, fs_lt, fs_eqv, ei, ei, ei, dataLt_int, dataLt_int, dataLt_int]
  unfold plLt
  by_cases h1 : fcO p.f = fcO q.f
  · by_cases h2 : p.x = q.x
    · by_cases h3 : p.y = q.y
      · by_cases h4 : p.z = q.z <;> simp [h1, h2, h3, h4]
      · simp [h1, h2, h3]
    · simp [h1, h2]
  · simp [h1]
theorem plLt_anti (p q : Pl) (h1 : plLt p q = false) (h2 : plLt q p = false) : p = q := by
  unfold plLt at h1 h2
  simp only [decide_eq_false_iff_not] at h1 h2
  obtain ⟨f, x, y, z⟩ := p
  obtain ⟨g, x', y', z'⟩ := q
  simp only at h1 h2
  have e : fcO f = fcO g := by omega
  have := fcO_inj e
  subst this
  have e1 : x = x' := by omega
  have e2 : y = y' := by omega
  have e3 : z = z' := by omega
  subst e1 e2 e3
  rfl
theorem sortD_pls {l m : List Pl} (hp : m.Perm l) (hs : m.Pairwise fun x y => plLt x y = true) (hl : l.length ≤ sizeLine) : sortD (.lst (l.map Pl.d)) = some (.lst (m.map Pl.d)) := by
  show (if sortB (l.map Pl.d) = true then some (D.lst ((l.map Pl.d).mergeSort (dataLe false encD))) else none) = _
  rw [if_pos (sortB_of Pl.d Pl.py dat_pl (fun _ _ => by simp [alike, alikeAll, Pl.py]) (.inl fun _ => rfl) (fun _ => by simp [PyData.depth, PyData.depthAll, Pl.py]) hl)]
  have as : ∀ x y, plLt x y = true → plLt y x = false := fun x y h => by
    unfold plLt at h ⊢
    simp only [decide_eq_true_eq, decide_eq_false_iff_not] at h ⊢
    omega
  rw [sort_is Pl.d plLt pl_lt plLt_anti (fun x y z h1 h2 => by
    unfold plLt at h1 h2 ⊢
    simp only [decide_eq_false_iff_not] at h1 h2 ⊢
    omega) as hp (hs.imp fun h => as _ _ h)]
/-- any list of places, sorted -/
def sortP (l : List Pl) : List Pl := l.mergeSort fun a b => !plLt b a
theorem sortD_any {l : List Pl} (hl : l.length ≤ sizeLine) : sortD (.lst (l.map Pl.d)) = some (.lst ((sortP l).map Pl.d)) := by
  show (if sortB (l.map Pl.d) = true then some (D.lst ((l.map Pl.d).mergeSort (dataLe false encD))) else none) = _
  rw [if_pos (sortB_of Pl.d Pl.py dat_pl (fun _ _ => by simp [alike, alikeAll, Pl.py]) (.inl fun _ => rfl) (fun _ => by simp [PyData.depth, PyData.depthAll, Pl.py]) hl)]
  congr 2
  refine (sort_maps Pl.d fun a _ b _ => ?_).symm
  rw [dataLe_eq]
  show (!plLt b a) = (!dataLt (encD b.d) (encD a.d))
  rw [pl_lt]
theorem sortP_perm (l : List Pl) : (sortP l).Perm l := List.mergeSort_perm l _
/-! comprehensions of several clauses -/
theorem clE_flat {α : Type} {g : D → Env → Option Env} {t : Env → TR} {U : List Nat} {k : D → Env → Option (D × Env)} (φ : α → D) (ψ : α → List D) (env : Env) : ∀ (l : List α) (acc : List D), (∀ x ∈ l, ∀ acc : List D, acc.length + (ψ x).length ≤ sizeLine → ∃ e1 e3, g (φ x) env = some e1 ∧ t e1 = .ok true e1 ∧ k (.lst acc) e1 = some (.lst (acc ++ ψ x), e3) ∧ wipeE e3 U = env) → acc.length + (l.flatMap ψ).length ≤ sizeLine →
    clE g t U k (l.map φ) (.lst acc) env = some (.lst (acc ++ l.flatMap ψ), env)
  | [], acc, _, _ => by simp [clE]
  | x :: l, acc, h, hl => by
    simp only [List.flatMap_cons, List.length_append] at hl
    obtain ⟨e1, e3, h1, h2, h3, h4⟩ := h x List.mem_cons_self acc (by omega)
    have ih := clE_flat φ ψ env l (acc ++ ψ x) (fun y hy => h y (List.mem_cons_of_mem _ hy)) (by rw [List.length_append]; omega)
    rw [List.map_cons]
    unfold clE
    simp only [h1, h2, h3, h4, ih]
    simp
end C

set_option maxRecDepth 100000
set_option maxHeartbeats 4000000
namespace C
open PySem L2
/-! all places of a size, plainly -/
def rng (n : Int) : List Int := (List.range n.toNat).map fun (k : Nat) => (k : Int)
theorem mem_rng {n x : Int} : x ∈ rng n ↔ 0 ≤ x ∧ x < n := by
  unfold rng
  rw [List.mem_map]
  constructor
  · rintro ⟨k, hk, rfl⟩
    have := List.mem_range.mp hk
    omega
  · rintro ⟨h1, h2⟩
    exact ⟨x.toNat, List.mem_range.mpr (by omega), by omega⟩
theorem rng_lt (n : Int) : (rng n).Pairwise (· < ·) := by
  unfold rng
  rw [List.pairwise_map]
  exact List.pairwise_lt_range.imp fun h => by omega
theorem rng_len (n : Int) : (rng n).length = n.toNat := by simp [rng]
theorem rangeD_rng (n : Int) : rangeD 0 n = (rng n).map D.int := by
  unfold rangeD rng
  rw [List.map_map, Int.sub_zero]
  apply List.map_congr_left
  intro k _
  simp
def sixF : List Fc := [.R, .L, .U, .D, .F, .B]
def ordF : List Fc := [.B, .D, .F, .L, .R, .U]
def cellsL (n : Int) : List (Int × Int × Int) := (rng n).flatMap fun x => (rng n).flatMap fun y => (rng n).map fun z => (x, y, z)
def facesC (n : Int) (c : Int × Int × Int) : List Fc := sixF.filter fun f => decide (dep n f c.1 c.2.1 c.2.2 = 1)
def rawPl (n : Int) : List Pl := (cellsL n).flatMap fun c => (facesC n c).map fun f => ⟨f, c.1, c.2.1, c.2.2⟩
def placesL (n : Int) : List Pl := ordF.flatMap fun f => ((cellsL n).filter fun c => decide (dep n f c.1 c.2.1 c.2.2 = 1)).map fun c => ⟨f, c.1, c.2.1, c.2.2⟩
theorem mem_cells {n : Int} {c : Int × Int × Int} : c ∈ cellsL n ↔ (0 ≤ c.1 ∧ c.1 < n) ∧ (0 ≤ c.2.1 ∧ c.2.1 < n) ∧ (0 ≤ c.2.2 ∧ c.2.2 < n) := by
  unfold cellsL
  simp only [List.mem_flatMap, List.mem_map, mem_rng]
  constructor
  · rintro ⟨x, hx, y, hy, z, hz, rfl⟩
    exact ⟨hx, hy, hz⟩
  · rintro ⟨hx, hy, hz⟩
    exact ⟨c.1, hx, c.2.1, hy, c.2.2, hz, rfl⟩
theorem mem_facesC {n : Int} {c : Int × Int × Int} {f : Fc} : f ∈ facesC n c ↔ dep n f c.1 c.2.1 c.2.2 = 1 := by
  unfold facesC sixF
  rw [List.mem_filter]
  constructor
  · intro h; exact of_decide_eq_true h.2
  · intro h; exact ⟨by cases f <;> simp, decide_eq_true h⟩
theorem mem_raw {n : Int} {p : Pl} : p ∈ rawPl n ↔ p.ok n := by
  unfold rawPl
  simp only [List.mem_flatMap, List.mem_map, mem_cells, mem_facesC]
  constructor
  · rintro ⟨c, ⟨h1, h2, h3⟩, f, hf, rfl⟩
    exact ⟨h1, h2, h3, hf⟩
  · rintro ⟨h1, h2, h3, hd⟩
    exact ⟨(p.x, p.y, p.z), ⟨h1, h2, h3⟩, p.f, hd, rfl⟩
theorem mem_places {n : Int} {p : Pl} : p ∈ placesL n ↔ p.ok n := by
  unfold placesL
  simp only [List.mem_flatMap, List.mem_map, List.mem_filter, mem_cells]
  constructor
  · rintro ⟨f, _, c, ⟨⟨h1, h2, h3⟩, hf⟩, rfl⟩
    exact ⟨h1, h2, h3, of_decide_eq_true hf⟩
  · rintro ⟨h1, h2, h3, hd⟩
    exact ⟨p.f, by unfold ordF; cases p.f <;> simp, (p.x, p.y, p.z), ⟨⟨h1, h2, h3⟩, decide_eq_true hd⟩, rfl⟩
def celLt (c d : Int × Int × Int) : Prop := c.1 < d.1 ∨ (c.1 = d.1 ∧ (c.2.1 < d.2.1 ∨ (c.2.1 = d.2.1 ∧ c.2.2 < d.2.2)))
theorem cells_lt (n : Int) : (cellsL n).Pairwise celLt := by
  unfold cellsL
  rw [List.pairwise_flatMap]
  refine ⟨fun x _ => ?_, (rng_lt n).imp fun {a b} h => ?_⟩
  · rw [List.pairwise_flatMap]
    refine ⟨fun y _ => ?_, (rng_lt n).imp fun {a b} h => ?_⟩
    · rw [List.pairwise_map]
      exact (rng_lt n).imp fun h => .inr ⟨rfl, .inr ⟨rfl, h⟩⟩
    · intro c hc d hd
      obtain ⟨z, _, rfl⟩ := List.mem_map.mp hc
      obtain ⟨z', _, rfl⟩ := List.mem_map.mp hd
      exact .inr ⟨rfl, .inl h⟩
  · intro c hc d hd
    obtain ⟨y, _, hc⟩ := List.mem_flatMap.mp hc
    obtain ⟨y', _, hd⟩ := List.mem_flatMap.mp hd
    obtain ⟨z, _, rfl⟩ := List.mem_map.mp hc
    obtain ⟨z', _, rfl⟩ := List.mem_map.mp hd
    exact .inl h
theorem cells_nodup (n : Int) : (cellsL n).Nodup := (cells_lt n).imp fun {a b} h e => by
  subst e
  unfold celLt at h
  omega
theorem places_lt (n : Int) : (placesL n).Pairwise fun p q => plLt p q = true := by
  unfold placesL
  rw [List.pairwise_flatMap]
  refine ⟨fun f _ => ?_, ?_⟩
  · rw [List.pairwise_map]
    refine ((cells_lt n).filter _).imp fun {c d} h => ?_
    unfold plLt
    unfold celLt at h
    simp only [decide_eq_true_eq]
    exact .inr ⟨by simp, h⟩
  · have : ordF.Pairwise fun f g => fcO f < fcO g := by unfold ordF; decide
    refine this.imp fun {f g} h => ?_
    intro p hp q hq
    obtain ⟨c, _, rfl⟩ := List.mem_map.mp hp
    obtain ⟨d, _, rfl⟩ := List.mem_map.mp hq
    unfold plLt
    simp only [decide_eq_true_eq]
    exact .inl h
theorem places_nodup (n : Int) : (placesL n).Nodup := (places_lt n).imp fun {a b} h e => by
  subst e
  unfold plLt at h
  simp at h
theorem raw_nodup (n : Int) : (rawPl n).Nodup := by
  unfold rawPl List.Nodup
  rw [List.pairwise_flatMap]
  refine ⟨fun c _ => ?_, (cells_nodup n).imp fun {c d} h => ?_⟩
  · rw [List.pairwise_map]
    have : sixF.Nodup := by unfold sixF; decide
    exact (this.filter _).imp fun h e => h (congrArg Pl.f e)
  · intro p hp q hq e
    obtain ⟨f, _, rfl⟩ := List.mem_map.mp hp
    obtain ⟨g, _, rfl⟩ := List.mem_map.mp hq
    apply h
    have e1 := congrArg Pl.x e
    have e2 := congrArg Pl.y e
    have e3 := congrArg Pl.z e
    simp only at e1 e2 e3
    exact Prod.ext e1 (Prod.ext e2 e3)
theorem places_perm (n : Int) : (placesL n).Perm (rawPl n) := (List.perm_ext_iff_of_nodup (places_nodup n) (raw_nodup n)).mpr fun p => by rw [mem_places, mem_raw]
theorem cells_len (n : Int) : (cellsL n).length = n.toNat * (n.toNat * n.toNat) := by
  unfold cellsL
  simp [List.length_flatMap, rng_len, List.map_const', List.sum_replicate_nat]
theorem raw_len {n : Int} : (rawPl n).length ≤ 6 * (n.toNat * (n.toNat * n.toNat)) := by
  rw [← cells_len]
  unfold rawPl
  generalize cellsL n = l
  induction l with
  | nil => simp
  | cons c l ih =>
    rw [List.flatMap_cons, List.length_append, List.length_cons]
    have : ((facesC n c).map fun f => (⟨f, c.1, c.2.1, c.2.2⟩ : Pl)).length ≤ 6 := by
      rw [List.length_map]
      unfold facesC
      exact Nat.le_trans (List.length_filter_le _ _) (by decide)
    omega
end C

set_option maxRecDepth 100000
set_option maxHeartbeats 4000000
namespace C
open PySem L2
/-! faces_of -/
def c3 (c : Int × Int × Int) : D := cD c.1 c.2.1 c.2.2
theorem lcE_flt {α : Type} {g : D → Env → Option Env} {t : Env → TR} {e : Env → ER} {vs : List Nat} (φ ψ : α → D) (p : α → Bool) (env : Env) : ∀ (ds : List α) (acc : List D), (∀ x ∈ ds, ∃ e1, g (φ x) env = some e1 ∧ t e1 = .ok (p x) e1 ∧ (p x = true → e e1 = .ok (ψ x) e1) ∧ wipeE e1 vs = env) → acc.length + ds.length ≤ sizeLine →
    lcE g t e vs (ds.map φ) acc env = .ok (.lst (acc ++ (ds.filter p).map ψ)) env
  | [], acc, _, _ => by simp [lcE]
  | x :: l, acc, h, hl => by
    obtain ⟨e1, h1, h2, h3, h4⟩ := h x List.mem_cons_self
    rw [List.map_cons]
    unfold lcE
    cases hp : p x with
    | true =>
      have ih := lcE_flt φ ψ p env l (acc ++ [ψ x]) (fun y hy => h y (List.mem_cons_of_mem _ hy)) (by simp at hl ⊢; omega)
      have hz : acc.length < sizeLine := by simp at hl; omega
      rw [hp] at h2
      simp only [h1, h2, h3 hp, h4, if_pos hz, ih]
      simp [hp]
    | false =>
      have ih := lcE_flt φ ψ p env l acc (fun y hy => h y (List.mem_cons_of_mem _ hy)) (by simp at hl ⊢; omega)
      rw [hp] at h2
      simp only [h1, h2, h4, ih]
      simp [hp]
theorem lc_flt {α : Type} (φ ψ : α → D) (p : α → Bool) (l : List α) {i : Nat} {c : CI} {t : CT} {e : CE} {env : Env} (hc : c.ev env = .ok (l.map φ) env) (ht : ∀ x ∈ l, t.ev (env.set i (some (φ x))) = .ok (p x) (env.set i (some (φ x)))) (he : ∀ x ∈ l, e.ev (env.set i (some (φ x))) = .ok (ψ x) (env.set i (some (φ x)))) (hi : i < env.length) (hz : l.length ≤ sizeLine) :
    Lc.ev ⟨[i], CG.name i, c, some t, e⟩ env = .ok (.lst ((l.filter p).map ψ)) env := by
  have h := lcE_flt (g := (CG.name i).asg) (t := tsE (some t)) (e := e.ev) (vs := [i]) φ ψ p (env.set i none) l [] (fun x hx => ⟨env.set i (some (φ x)), by simp, ht x hx, fun _ => he x hx, by simp [wipeE]⟩) (by simpa using hz)
  unfold Lc.ev
  simp only [hc, ER.bind_ok, AR.bind_ok]
  unfold evLc
  have hw : wipeE env [i] = env.set i none := rfl
  rw [hw, h]
  simp [backE, hi]
theorem iter_faces : iterD (.str "RLUDFB") = some (sixF.map fun f => D.str (fs f)) := by kernel_rfl
theorem faces_eq (n : Int) (c : Int × Int × Int) : F_faces_of [.int n, c3 c] = .ret (.lst ((facesC n c).map fun f => D.str (fs f))) [] := by
  unfold F_faces_of runF b_faces_of
  simp [env0]
  rw [lc_flt (fun f => D.str (fs f)) (fun f => D.str (fs f)) (fun f => decide (dep n f c.1 c.2.1 c.2.2 = 1)) sixF (by simp [iter_faces]) (fun f _ => by
    have h := depth_eq n f c.1 c.2.1 c.2.2
    unfold c3
    simp [evCall, h]) (fun f _ => by simp) (by simp) (by unfold sizeLine sixF; simp)]
  simp [facesC]
end C

set_option maxRecDepth 100000
set_option maxHeartbeats 4000000
namespace C
open PySem L2
/-! places -/
theorem clE_one {α : Type} {g : D → Env → Option Env} {t : Env → TR} {U : List Nat} {k : D → Env → Option (D × Env)} (φ : α → D) (ψ : α → D) (env : Env) (l : List α) (acc : List D) (h : ∀ x ∈ l, ∀ acc : List D, acc.length < sizeLine → ∃ e1 e3, g (φ x) env = some e1 ∧ t e1 = .ok true e1 ∧ k (.lst acc) e1 = some (.lst (acc ++ [ψ x]), e3) ∧ wipeE e3 U = env) (hl : acc.length + l.length ≤ sizeLine) :
    clE g t U k (l.map φ) (.lst acc) env = some (.lst (acc ++ l.map ψ), env) := by
  have := clE_flat (g := g) (t := t) (U := U) (k := k) φ (fun x => [ψ x]) env l acc (fun x hx acc ha => by
    obtain ⟨e1, e3, h1, h2, h3, h4⟩ := h x hx acc (by simp at ha; omega)
    exact ⟨e1, e3, h1, h2, h3, h4⟩) (by rw [← List.map_eq_flatMap, List.length_map]; exact hl)
  rw [this]
  simp [List.map_eq_flatMap]
def pcn : Cn := ⟨⟨[2], (CG.name 2), (CI.range1 (CE.var 0)), none⟩, [⟨[3], (CG.name 3), (CI.range1 (CE.var 0)), none⟩, ⟨[4], (CG.name 4), (CI.range1 (CE.var 0)), none⟩]⟩
theorem cells_ev {n : Int} (h0 : 0 ≤ n) (h1 : n ≤ 100) : pcn.ev (.lst []) (lstLeaf (CE.tup (CA.cons (CE.var 2) (CA.cons (CE.var 3) (CA.cons (CE.var 4) CA.nil))))) [some (.int n), none, none, none, none, none, none] = .ok (.lst ((cellsL n).map c3)) [some (.int n), none, none, none, none, none, none] := by
  have hq : rgB n = true := rgB_small (by omega) (by omega)
  have hz : n.toNat * (n.toNat * n.toNat) ≤ 1000000 := by
    have : n.toNat ≤ 100 := by omega
    calc n.toNat * (n.toNat * n.toNat) ≤ 100 * (100 * 100) := Nat.mul_le_mul this (Nat.mul_le_mul this this)
      _ = 1000000 := by decide
  have lz : ∀ (x y z : Int) (acc : List D), acc.length < sizeLine → lstLeaf (CE.tup (CA.cons (CE.var 2) (CA.cons (CE.var 3) (CA.cons (CE.var 4) CA.nil)))) (.lst acc) [some (.int n), none, some (.int x), some (.int y), some (.int z), none, none] = some (.lst (acc ++ [cD x y z]), [some (.int n), none, some (.int x), some (.int y), some (.int z), none, none]) := fun x y z acc ha => by
    simp [lstLeaf, sizeLine, cD] at ha ⊢
    exact if_pos ha
  have hlx : ∀ x y, ((rng n).map fun z => cD x y z).length = n.toNat := fun x y => by rw [List.length_map, rng_len]
  have k2 : ∀ (x y : Int) (acc : List D), acc.length + ((rng n).map fun z => cD x y z).length ≤ sizeLine → innE (lstLeaf (CE.tup (CA.cons (CE.var 2) (CA.cons (CE.var 3) (CA.cons (CE.var 4) CA.nil))))) [⟨[4], (CG.name 4), (CI.range1 (CE.var 0)), none⟩] (.lst acc) [some (.int n), none, some (.int x), some (.int y), none, none, none] = some (.lst (acc ++ (rng n).map fun z => cD x y z), [some (.int n), none, some (.int x), some (.int y), none, none, none]) := fun x y acc ha => by
    have := clE_one (g := (CG.name 4).asg) (t := tsE none) (U := [4]) (k := innE (lstLeaf (CE.tup (CA.cons (CE.var 2) (CA.cons (CE.var 3) (CA.cons (CE.var 4) CA.nil))))) []) D.int (fun z => cD x y z) [some (.int n), none, some (.int x), some (.int y), none, none, none] (rng n) acc (fun z _ acc ha => ⟨[some (.int n), none, some (.int x), some (.int y), some (.int z), none, none], _, rfl, rfl, lz x y z acc ha, rfl⟩) (by rw [List.length_map] at ha; exact ha)
    unfold innE
    simp [evR1, hq, rangeD_rng, Cl.vl, wipeE, this]
  have k1 : ∀ (x : Int) (acc : List D), acc.length + ((rng n).flatMap fun y => (rng n).map fun z => cD x y z).length ≤ sizeLine → innE (lstLeaf (CE.tup (CA.cons (CE.var 2) (CA.cons (CE.var 3) (CA.cons (CE.var 4) CA.nil))))) [⟨[3], (CG.name 3), (CI.range1 (CE.var 0)), none⟩, ⟨[4], (CG.name 4), (CI.range1 (CE.var 0)), none⟩] (.lst acc) [some (.int n), none, some (.int x), none, none, none, none] = some (.lst (acc ++ (rng n).flatMap fun y => (rng n).map fun z => cD x y z), [some (.int n), none, some (.int x), none, none, none, none]) := fun x acc ha => by
    have := clE_flat (g := (CG.name 3).asg) (t := tsE none) (U := [3, 4]) (k := innE (lstLeaf (CE.tup (CA.cons (CE.var 2) (CA.cons (CE.var 3) (CA.cons (CE.var 4) CA.nil))))) [⟨[4], (CG.name 4), (CI.range1 (CE.var 0)), none⟩]) D.int (fun y => (rng n).map fun z => cD x y z) [some (.int n), none, some (.int x), none, none, none, none] (rng n) acc (fun y _ acc ha => ⟨[some (.int n), none, some (.int x), some (.int y), none, none, none], _, rfl, rfl, k2 x y acc ha, rfl⟩) ha
    unfold innE
    simp [evR1, hq, rangeD_rng, Cl.vl, wipeE, this]
  have e : (cellsL n).map c3 = (rng n).flatMap fun x => (rng n).flatMap fun y => (rng n).map fun z => cD x y z := by
    unfold cellsL
    simp [List.map_flatMap, c3, Function.comp_def]
  have hlen : ((rng n).flatMap fun x => (rng n).flatMap fun y => (rng n).map fun z => cD x y z).length ≤ sizeLine := by
    rw [← e, List.length_map, cells_len]; unfold sizeLine; omega
  have := clE_flat (g := (CG.name 2).asg) (t := tsE none) (U := [2, 3, 4]) (k := innE (lstLeaf (CE.tup (CA.cons (CE.var 2) (CA.cons (CE.var 3) (CA.cons (CE.var 4) CA.nil))))) [⟨[3], (CG.name 3), (CI.range1 (CE.var 0)), none⟩, ⟨[4], (CG.name 4), (CI.range1 (CE.var 0)), none⟩]) D.int (fun x => (rng n).flatMap fun y => (rng n).map fun z => cD x y z) [some (.int n), none, none, none, none, none, none] (rng n) [] (fun x _ acc ha => ⟨[some (.int n), none, some (.int x), none, none, none, none], _, rfl, rfl, k1 x acc ha, rfl⟩) (by simpa using hlen)
  rw [e]
  unfold Cn.ev pcn Cn.vs
  simp [evR1, hq, rangeD_rng, Cl.vl, wipeE, this, backE]
def qcn : Cn := ⟨⟨[5], (CG.name 5), (CI.seq (CE.var 1)), none⟩, [⟨[6], (CG.name 6), (CI.seq (CE.call "faces_of" 2 [] F_faces_of (CC.val (CE.var 0) (CC.val (CE.var 5) CC.nil)))), none⟩]⟩
theorem raw_ev {n : Int} (h0 : 0 ≤ n) (h1 : n ≤ 100) : qcn.ev (.lst []) (lstLeaf (CE.tup (CA.cons (CE.var 6) (CA.star (CE.var 5) CA.nil)))) [some (.int n), some (.lst ((cellsL n).map c3)), none, none, none, none, none] = .ok (.lst ((rawPl n).map Pl.d)) [some (.int n), some (.lst ((cellsL n).map c3)), none, none, none, none, none] := by
  generalize hL : D.lst ((cellsL n).map c3) = L
  have lz : ∀ (c : Int × Int × Int) (f : Fc) (acc : List D), acc.length < sizeLine → lstLeaf (CE.tup (CA.cons (CE.var 6) (CA.star (CE.var 5) CA.nil))) (.lst acc) [some (.int n), some L, none, none, none, some (c3 c), some (.str (fs f))] = some (.lst (acc ++ [(⟨f, c.1, c.2.1, c.2.2⟩ : Pl).d]), [some (.int n), some L, none, none, none, some (c3 c), some (.str (fs f))]) := fun c f acc ha => by
    simp [lstLeaf, sizeLine, c3, cD, Pl.d] at ha ⊢
    exact if_pos ha
  have k1 : ∀ (c : Int × Int × Int) (acc : List D), acc.length + ((facesC n c).map fun f => (⟨f, c.1, c.2.1, c.2.2⟩ : Pl).d).length ≤ sizeLine → innE (lstLeaf (CE.tup (CA.cons (CE.var 6) (CA.star (CE.var 5) CA.nil)))) qcn.cs (.lst acc) [some (.int n), some L, none, none, none, some (c3 c), none] = some (.lst (acc ++ (facesC n c).map fun f => (⟨f, c.1, c.2.1, c.2.2⟩ : Pl).d), [some (.int n), some L, none, none, none, some (c3 c), none]) := fun c acc ha => by
    have hf := faces_eq n c
    have := clE_one (g := (CG.name 6).asg) (t := tsE none) (U := [6]) (k := innE (lstLeaf (CE.tup (CA.cons (CE.var 6) (CA.star (CE.var 5) CA.nil)))) []) (fun f => D.str (fs f)) (fun f => (⟨f, c.1, c.2.1, c.2.2⟩ : Pl).d) [some (.int n), some L, none, none, none, some (c3 c), none] (facesC n c) acc (fun f _ acc ha => ⟨[some (.int n), some L, none, none, none, some (c3 c), some (.str (fs f))], _, rfl, rfl, lz c f acc ha, rfl⟩) (by rw [List.length_map] at ha; exact ha)
    unfold qcn innE
    simp [evCall, hf, Cl.vl, wipeE, this]
  have e : (rawPl n).map Pl.d = (cellsL n).flatMap fun c => (facesC n c).map fun f => (⟨f, c.1, c.2.1, c.2.2⟩ : Pl).d := by
    unfold rawPl
    simp [List.map_flatMap, Function.comp_def]
  have hlen : ((cellsL n).flatMap fun c => (facesC n c).map fun f => (⟨f, c.1, c.2.1, c.2.2⟩ : Pl).d).length ≤ sizeLine := by
    rw [← e, List.length_map]
    refine Nat.le_trans raw_len ?_
    have : n.toNat ≤ 100 := by omega
    have hz : n.toNat * (n.toNat * n.toNat) ≤ 100 * (100 * 100) := Nat.mul_le_mul this (Nat.mul_le_mul this this)
    unfold sizeLine
    omega
  have := clE_flat (g := (CG.name 5).asg) (t := tsE none) (U := [5, 6]) (k := innE (lstLeaf (CE.tup (CA.cons (CE.var 6) (CA.star (CE.var 5) CA.nil)))) qcn.cs) c3 (fun c => (facesC n c).map fun f => (⟨f, c.1, c.2.1, c.2.2⟩ : Pl).d) [some (.int n), some L, none, none, none, none, none] (cellsL n) [] (fun c _ acc ha => ⟨[some (.int n), some L, none, none, none, some (c3 c), none], _, rfl, rfl, k1 c acc ha, rfl⟩) (by simpa using hlen)
  rw [e]
  unfold qcn at this ⊢
  unfold Cn.ev Cn.vs
  simp only [ev_seq, ev_var, evVar_eq, List.getElem?_cons_succ, List.getElem?_cons_zero, ER.bindA_ok, ← hL, iterD_lst, AR.bind_ok, Cl.vl, List.append_nil, List.cons_append, List.nil_append, wipeE, List.set]
  rw [hL, this]
  simp [backE]
theorem places_eq {n : Int} (h : 2 ≤ n) (h1 : n ≤ 20) : F_places [.int n] = .ret (.lst ((placesL n).map Pl.d)) [] := by
  have hc := check_ok h
  have e1 := cells_ev (n := n) (by omega) (by omega)
  have e2 := raw_ev (n := n) (by omega) (by omega)
  have hs := sortD_pls (places_perm n) (places_lt n) (by
    refine Nat.le_trans raw_len ?_
    have : n.toNat ≤ 100 := by omega
    have hz : n.toNat * (n.toNat * n.toNat) ≤ 100 * (100 * 100) := Nat.mul_le_mul this (Nat.mul_le_mul this this)
    unfold sizeLine
    omega)
  have hn : ¬ (20 : Int) < n := by omega
  unfold F_places runF b_places
  unfold pcn at e1
  unfold qcn at e2
  simp [env0, evCall, hc, hn, e1, e2, hs]
theorem places_large {n : Int} (h1 : 20 < n) : F_places [.int n] = .exc "TooLarge" [("n", .int n)] [] := by
  have hc := check_ok (n := n) (by omega)
  unfold F_places runF b_places
  simp [env0, evCall, hc, h1, sizeLine]
end C

set_option maxRecDepth 100000
set_option maxHeartbeats 4000000
namespace C
open PySem L2
/-! piece -/
def pcF (L : List Fc) (f : Fc) : List Fc :=
  let L' := if L.length = 3 then
      (L.filter fun g => decide (g = .U) || decide (g = .D)) ++ (if (L.filter fun g => decide (g = .L) || (decide (g = .D) || decide (g = .B))).length % 2 = 0 then (L.filter fun g => decide (g = .R) || decide (g = .L)) ++ (L.filter fun g => decide (g = .F) || decide (g = .B)) else ((L.filter fun g => decide (g = .R) || decide (g = .L)) ++ (L.filter fun g => decide (g = .F) || decide (g = .B))).reverse)
    else L
  let k := L'.findIdx fun g => decide (g = f)
  L'.drop k ++ L'.take k
def axL : List (List Fc) := [[], [.R], [.L]].flatMap fun a => [[], [.U], [.D]].flatMap fun b => [[], [.F], [.B]].map fun c => a ++ b ++ c
theorem faces_ax {n : Int} (hn : 2 ≤ n) (c : Int × Int × Int) : facesC n c ∈ axL := by
  obtain ⟨x, y, z⟩ := c
  have a1 : (if n - x = 1 then [Fc.R] else []) ++ (if x + 1 = 1 then [Fc.L] else []) ∈ ([[], [.R], [.L]] : List (List Fc)) := by
    by_cases h1 : n - x = 1 <;> by_cases h2 : x + 1 = 1 <;> first | omega | simp [h1, h2]
  have a2 : (if n - y = 1 then [Fc.U] else []) ++ (if y + 1 = 1 then [Fc.D] else []) ∈ ([[], [.U], [.D]] : List (List Fc)) := by
    by_cases h1 : n - y = 1 <;> by_cases h2 : y + 1 = 1 <;> first | omega | simp [h1, h2]
  have a3 : (if n - z = 1 then [Fc.F] else []) ++ (if z + 1 = 1 then [Fc.B] else []) ∈ ([[], [.F], [.B]] : List (List Fc)) := by
    by_cases h1 : n - z = 1 <;> by_cases h2 : z + 1 = 1 <;> first | omega | simp [h1, h2]
  have e : facesC n (x, y, z) = ((if n - x = 1 then [Fc.R] else []) ++ (if x + 1 = 1 then [Fc.L] else [])) ++ ((if n - y = 1 then [Fc.U] else []) ++ (if y + 1 = 1 then [Fc.D] else [])) ++ ((if n - z = 1 then [Fc.F] else []) ++ (if z + 1 = 1 then [Fc.B] else [])) := by
    unfold facesC sixF
    simp only [List.filter_cons, List.filter_nil, dep]
    by_cases h1 : n - x = 1 <;> by_cases h2 : x + 1 = 1 <;> by_cases h3 : n - y = 1 <;> by_cases h4 : y + 1 = 1 <;> by_cases h5 : n - z = 1 <;> by_cases h6 : z + 1 = 1 <;> simp [h1, h2, h3, h4, h5, h6]
  rw [e]
  unfold axL
  rw [List.mem_flatMap]
  refine ⟨_, a1, ?_⟩
  rw [List.mem_flatMap]
  exact ⟨_, a2, List.mem_map.mpr ⟨_, a3, rfl⟩⟩
end C

set_option maxRecDepth 100000
set_option maxHeartbeats 4000000
namespace C
open PySem L2
theorem slice_cell (p : Pl) : sliceD p.d (some 1) none = some (cD p.x p.y p.z) := by kernel_rfl
/-! piece -/
theorem piece_eq {n : Int} (hn : 2 ≤ n) {p : Pl} (h : p.ok n) : F_piece [.int n, p.d] = .ret (.lst ((pcF (facesC n (p.x, p.y, p.z)) p.f).map fun g => (⟨g, p.x, p.y, p.z⟩ : Pl).d)) [] := by
  have hc := check_places1 hn h
  have hsl := slice_cell p
  have hf : F_faces_of [.int n, cD p.x p.y p.z] = .ret (.lst ((facesC n (p.x, p.y, p.z)).map fun f => D.str (fs f))) [] := faces_eq n (p.x, p.y, p.z)
  have hm : p.f ∈ facesC n (p.x, p.y, p.z) := mem_facesC.mpr h.hd
  have hx := faces_ax hn (p.x, p.y, p.z)
  unfold F_piece runF b_piece
  simp only [env0, List.map_cons, List.map_nil, List.length_cons, List.length_nil, Nat.zero_add, Nat.reduceAdd, Nat.reduceSub, List.replicate, List.cons_append, List.nil_append]
  simp [evCall, hc, sizeLine, evPart, hsl, hf]
  generalize facesC n (p.x, p.y, p.z) = L at hm hx ⊢
  unfold axL at hx
  simp only [List.flatMap_cons, List.flatMap_nil, List.map_cons, List.map_nil, List.append_nil, List.nil_append, List.cons_append, List.mem_cons, List.not_mem_nil, or_false] at hx
  obtain ⟨f, x, y, z⟩ := p
  simp only at hm ⊢
  rcases hx with rfl | rfl | rfl | rfl | rfl | rfl | rfl | rfl | rfl | rfl | rfl | rfl | rfl | rfl | rfl | rfl | rfl | rfl | rfl | rfl | rfl | rfl | rfl | rfl | rfl | rfl | rfl <;> simp only [List.mem_cons, List.not_mem_nil, or_false] at hm <;> (try (exact hm.elim)) <;> (first | (rcases hm with rfl | rfl | rfl <;> kernel_rfl) | (rcases hm with rfl | rfl <;> kernel_rfl) | (subst hm; kernel_rfl))
end C

set_option maxRecDepth 100000
set_option maxHeartbeats 4000000
namespace C
open PySem L2
/-! kind() -/
def ls (n c : Int) : Int := min (c + 1) (n - c)
def sort3 (a b c : Int) : Int × Int × Int :=
  if a ≤ b then (if b ≤ c then (a, b, c) else if a ≤ c then (a, c, b) else (c, a, b)) else (if a ≤ c then (b, a, c) else if b ≤ c then (b, c, a) else (c, b, a))
theorem sort3_perm (a b c : Int) : [(sort3 a b c).1, (sort3 a b c).2.1, (sort3 a b c).2.2].Perm [a, b, c] := by
  unfold sort3
  split
  · split
    · exact List.Perm.refl _
    · split
      · exact (List.Perm.swap b c []).cons a
      · exact ((List.Perm.swap a c [b])).trans ((List.Perm.swap b c []).cons a)
  · split
    · exact List.Perm.swap a b [c]
    · split
      · exact ((List.Perm.swap a c []).cons b).trans (List.Perm.swap a b [c])
      · exact ((List.Perm.swap b c [a])).trans (((List.Perm.swap a c []).cons b).trans (List.Perm.swap a b [c]))
theorem sort3_le (a b c : Int) : (sort3 a b c).1 ≤ (sort3 a b c).2.1 ∧ (sort3 a b c).2.1 ≤ (sort3 a b c).2.2 := by
  unfold sort3
  split <;> split <;> (try split) <;> simp only <;> omega
theorem min2 (a b : Int) : bMin.f [.lst [.int a, .int b]] = some (.int (min a b)) := by
  show (match intsD [D.int a, D.int b] with | some (a :: r) => some (D.int (minI r a)) | _ => none) = _
  have : intsD [D.int a, D.int b] = some [a, b] := rfl
  rw [this]
  show some (D.int (if b < a then b else a)) = _
  congr 2
  omega
theorem lesser_lr (n x y z : Int) : F_lesser_depth [.int n, .str "LR", cD x y z] = .ret (.int (ls n x)) [] := by
  have h1 := depth_eq n .L x y z
  have h2 := depth_eq n .R x y z
  have hi : iterD (.str "LR") = some ([Fc.L, .R].map fun f => D.str (fs f)) := by kernel_rfl
  unfold F_lesser_depth runF b_lesser_depth
  simp [env0]
  rw [lc_ok (fun f => D.str (fs f)) (fun f => D.int (dep n f x y z)) [Fc.L, .R] (by simp [hi]) (fun f _ => by simp [evCall, depth_eq]) (by simp) (by unfold sizeLine; simp)]
  simp [min2, dep, ls]
theorem lesser_du (n x y z : Int) : F_lesser_depth [.int n, .str "DU", cD x y z] = .ret (.int (ls n y)) [] := by
  have hi : iterD (.str "DU") = some ([Fc.D, .U].map fun f => D.str (fs f)) := by kernel_rfl
  unfold F_lesser_depth runF b_lesser_depth
  simp [env0]
  rw [lc_ok (fun f => D.str (fs f)) (fun f => D.int (dep n f x y z)) [Fc.D, .U] (by simp [hi]) (fun f _ => by simp [evCall, depth_eq]) (by simp) (by unfold sizeLine; simp)]
  simp [min2, dep, ls]
theorem lesser_bf (n x y z : Int) : F_lesser_depth [.int n, .str "BF", cD x y z] = .ret (.int (ls n z)) [] := by
  have hi : iterD (.str "BF") = some ([Fc.B, .F].map fun f => D.str (fs f)) := by kernel_rfl
  unfold F_lesser_depth runF b_lesser_depth
  simp [env0]
  rw [lc_ok (fun f => D.str (fs f)) (fun f => D.int (dep n f x y z)) [Fc.B, .F] (by simp [hi]) (fun f _ => by simp [evCall, depth_eq]) (by simp) (by unfold sizeLine; simp)]
  simp [min2, dep, ls]
inductive Kd | corner | edge | wing (d : Int) | centre (a b : Int) | middle deriving DecidableEq
def Kd.d : Kd → D
  | .corner => .tup [.str "corner"]
  | .edge => .tup [.str "edge"]
  | .wing d => .tup [.str "wing", .int d]
  | .centre a b => .tup [.str "centre", .int a, .int b]
  | .middle => .tup [.str "middle"]
def kdS (n : Int) (s : Int × Int × Int) : Kd :=
  let k := (if s.1 = 1 then 1 else 0) + (if s.2.1 = 1 then 1 else 0) + (if s.2.2 = 1 then 1 else 0)
  if k = 3 then .corner else if k = 2 then (if 2 * s.2.2 = n + 1 then .edge else .wing s.2.2) else if 2 * s.2.1 = n + 1 then .middle else .centre s.2.1 s.2.2
def Pl.kd (n : Int) (p : Pl) : Kd := kdS n (sort3 (ls n p.x) (ls n p.y) (ls n p.z))
theorem count3 (a b c : Int) : lstCountF (.lst [.int a, .int b, .int c]) [.int 1] = some (.int (((if a = 1 then 1 else 0) + (if b = 1 then 1 else 0) + (if c = 1 then 1 else 0) : Nat) : Int)) := by
  have e : ∀ x : Int, PyData.eqv (.int x) (.int 1) = decide (x = 1) := fun x => by
    rw [show PyData.eqv (.int x) (.int 1) = (x == 1) from by simp [PyData.eqv]]
    by_cases h : x = 1 <;> simp [h]
  have hp : (PyData.plainAll [.int a, .int b, .int c] && ((PyData.int 1).plain && decide ((PyData.int 1).depth ≤ 50))) = true := by
    simp [PyData.plainAll, PyData.plain, PyData.depth]
  show (if (PyData.plainAll [.int a, .int b, .int c] && ((PyData.int 1).plain && decide ((PyData.int 1).depth ≤ 50))) = true then some (D.int (([PyData.int a, .int b, .int c].countP fun z => PyData.eqv z (.int 1) : Nat) : Int)) else none) = _
  rw [if_pos hp]
  congr 2
  simp only [List.countP_cons, List.countP_nil, e]
  by_cases h1 : a = 1 <;> by_cases h2 : b = 1 <;> by_cases h3 : c = 1 <;> simp [h1, h2, h3]

theorem ty_lst (l : List D) : mLstCount.ty (.lst l) = true := rfl
theorem f_count (d : D) (ds : List D) : mLstCount.f d ds = lstCountF d ds := rfl
def plF : List (D × D) := []
theorem kind_eq {n : Int} (hn : 2 ≤ n) {p : Pl} (h : p.ok n) : F_kind [.int n, p.d] = .ret (p.kd n).d [] := by
  have hc := check_places1 hn h
  have hsl := slice_cell p
  have hs := sortD_ints (l := [ls n p.x, ls n p.y, ls n p.z]) (sort3_perm (ls n p.x) (ls n p.y) (ls n p.z)) (by have := sort3_le (ls n p.x) (ls n p.y) (ls n p.z); simp; omega) (by unfold sizeLine; simp)
  unfold Pl.kd
  have hle := sort3_le (ls n p.x) (ls n p.y) (ls n p.z)
  have h1 : 1 ≤ (sort3 (ls n p.x) (ls n p.y) (ls n p.z)).1 := by
    have hm := (sort3_perm (ls n p.x) (ls n p.y) (ls n p.z)).mem_iff.mp List.mem_cons_self
    have q : ∀ c : Int, 0 ≤ c → c < n → 1 ≤ ls n c := fun c h1 h2 => by unfold ls; omega
    simp only [List.mem_cons, List.not_mem_nil, or_false] at hm
    rcases hm with e | e | e <;> rw [e]
    · exact q _ h.hx.1 h.hx.2
    · exact q _ h.hy.1 h.hy.2
    · exact q _ h.hz.1 h.hz.2
  generalize sort3 (ls n p.x) (ls n p.y) (ls n p.z) = s at hs hle h1 ⊢
  obtain ⟨a, b, c⟩ := s
  simp only at hle h1
  simp only [List.map_cons, List.map_nil] at hs
  have hk := count3 a b c
  have l1 := lesser_lr n p.x p.y p.z
  have l2 := lesser_du n p.x p.y p.z
  have l3 := lesser_bf n p.x p.y p.z
  unfold F_kind runF b_kind
  simp [env0, evCall, hc, sizeLine, evPart, hsl]
  rw [lc_ok (fun i : Nat => D.str (if i = 0 then "LR" else if i = 1 then "DU" else "BF")) (fun i => D.int (if i = 0 then ls n p.x else if i = 1 then ls n p.y else ls n p.z)) [0, 1, 2] (by simp [sizeLine]) (fun i hi => by
    simp only [List.mem_cons, List.not_mem_nil, or_false] at hi
    rcases hi with rfl | rfl | rfl
    · simp [evCall, l1]
    · simp [evCall, l2]
    · simp [evCall, l3]) (by simp) (by unfold sizeLine; simp)]
  simp [hs, ty_lst, f_count, hk]
  unfold kdS
  by_cases c3 : c = 1
  · have e1 : a = 1 := by omega
    have e2 : b = 1 := by omega
    subst c3 e1 e2
    simp [Kd.d, sizeLine]
  · by_cases c2 : b = 1
    · have e1 : a = 1 := by omega
      subst c2 e1
      by_cases m2 : 2 * c = n + 1 <;> simp [c3, m2, mulB_l, Kd.d, sizeLine]
    · by_cases c1 : a = 1
      · subst c1
        by_cases m1 : 2 * b = n + 1 <;> simp [c2, c3, m1, mulB_l, Kd.d, sizeLine]
      · by_cases m1 : 2 * b = n + 1 <;> simp [c1, c2, c3, m1, mulB_l, Kd.d, sizeLine]
end C

set_option maxRecDepth 100000
set_option maxHeartbeats 4000000
namespace C
open PySem L2
/-! lists of faces compared; how long a piece is -/
theorem dats_fs : ∀ l : List Fc, datsOf (l.map fun f => D.str (fs f)) = some (l.map fun f => PyData.str (fs f))
  | [] => rfl
  | t :: l => by
    have ih := dats_fs l
    rw [List.map_cons, List.map_cons, datsOf_cons, ih]
    rfl
theorem lay_fs : ∀ l : List Fc, PyData.canLayAll0 (l.map fun f => PyData.str (fs f)) = true
  | [] => rfl
  | t :: l => by
    have ih := lay_fs l
    simp [PyData.canLayAll0, PyData.canLay0, ih, fs_ok]
theorem dep_fs : ∀ l : List Fc, PyData.depthAll (l.map fun f => PyData.str (fs f)) ≤ 3
  | [] => by simp [PyData.depthAll]
  | t :: l => by
    have ih := dep_fs l
    simp [PyData.depthAll, PyData.depth]
    omega
theorem eqv_fs : ∀ l : List Fc, PyData.eqvAll (l.map fun f => PyData.str (fs f)) (l.map fun f => PyData.str (fs f)) = true
  | [] => rfl
  | t :: l => by
    have ih := eqv_fs l
    simp [PyData.eqvAll, PyData.eqv, ih]
theorem eq_fs (l : List Fc) : eqF (.lst (l.map fun f => D.str (fs f))) (.lst (l.map fun f => D.str (fs f))) = some true := by
  have h1 := lay_fs l
  have h2 := dep_fs l
  have h3 : SeqAt.shaped (.list (l.map fun f => PyData.str (fs f))) = true := by
    simp [SeqAt.shaped, PyData.canLay0, PyData.depth, h1]
    omega
  rw [eqF_lst, dats_fs]
  simp only [Option.map_some, h3, Bool.and_self, if_true]
  simp [PyData.eqv, eqv_fs]
theorem pcF_len (L : List Fc) (f : Fc) : (pcF L f).length ≤ 3 * L.length := by
  have hd : ∀ (l : List Fc) (k : Nat), (l.drop k ++ l.take k).length = l.length := fun l k => by simp; omega
  have f1 : ∀ p : Fc → Bool, (L.filter p).length ≤ L.length := fun p => List.length_filter_le ..
  unfold pcF
  simp only [hd]
  split
  · split
    · simp only [List.length_append]
      have := f1 (fun g => decide (g = .U) || decide (g = .D))
      have := f1 (fun g => decide (g = .R) || decide (g = .L))
      have := f1 (fun g => decide (g = .F) || decide (g = .B))
      omega
    · simp only [List.length_append, List.length_reverse]
      have := f1 (fun g => decide (g = .U) || decide (g = .D))
      have := f1 (fun g => decide (g = .R) || decide (g = .L))
      have := f1 (fun g => decide (g = .F) || decide (g = .B))
      omega
  · omega
end C

set_option maxRecDepth 100000
set_option maxHeartbeats 4000000
namespace C
open PySem L2
/-! tuples that are no places -/
theorem is_place_nof {n : Int} (hn : 2 ≤ n) {f : Str} (h : isFace f = false) (x y z : Int) : F_is_place [.int n, .tup [.str f, .int x, .int y, .int z]] = .ret (.bl false) [] := by
  have hc := check_ok hn
  unfold F_is_place runF b_is_place
  simp [env0, evCall, hc, sizeLine, face_in, h]
theorem check_places_bad {n : Int} (hn : 2 ≤ n) {w : D} (h : F_is_place [.int n, w] = .ret (.bl false) []) : F_check_places [.int n, .lst [w]] = .exc "InvalidPlace" [("place", w)] [] := by
  have hc := check_ok hn
  unfold F_check_places runF b_check_places
  simp [env0, evCall, hc, forE, h, sizeLine]
theorem check_places_size {n : Int} (hn : n < 2) (d : D) : F_check_places [.int n, d] = .exc "InvalidSize" [("n", .int n)] [] := by
  have hc := check_bad hn
  unfold F_check_places runF b_check_places
  simp [env0, evCall, hc]
def fax : Fc → Nat
  | .R | .L => 0
  | .U | .D => 1
  | .F | .B => 2
theorem fcN_fax (f : Fc) : (fcN f : Int) / 2 = (fax f : Int) := by cases f <;> rfl
theorem none_ok {s : D} (hs : Src s) {n : Int} (hn : 2 ≤ n) {p : Pl} (h : p.ok n) : ∃ (f : Str) (x y z : Int) (s' : D), PyData.strOk f = true ∧ Src s' ∧ F_l_law_none [s, .int n, p.d] = .ret (.tup [.str f, .int x, .int y, .int z]) [s'] ∧ F_is_place [.int n, .tup [.str f, .int x, .int y, .int z]] = .ret (.bl false) [] := by
  obtain ⟨v, s1, a1, b1, h1, e1⟩ := draw_ok hs 5 (by omega) (by omega)
  obtain ⟨w, s2, a2, b2, h2, e2⟩ := draw_ok h1 4 (by omega) (by omega)
  have hsl : sliceD p.d (some 1) none = some (cD p.x p.y p.z) := by kernel_rfl
  have hp : powB 10 20 = true := by decide
  have d2 : divB 2 = true := by decide
  have i0 : fIx p.d (.int 0) = some (.str (fs p.f)) := rfl
  have hf := find_fc p.f
  have hx := fcN_fax p.f
  have il := fun (x y z : Int) => is_place_eq hn p.f x y z
  obtain ⟨hx1, hy1, hz1, hd1⟩ := h
  by_cases c3 : v < 3
  · obtain ⟨q, hq, hqo⟩ : ∃ q : Int, fIx (.lst [.int n, .int (n + 100000000000000000000), .int (-1), .int (-9)]) (.int w) = some (.int q) ∧ cooB n q = false := by
      rcases (by omega : w = 0 ∨ w = 1 ∨ w = 2 ∨ w = 3) with rfl | rfl | rfl | rfl
      · exact ⟨n, rfl, by unfold cooB; simp⟩
      · exact ⟨n + 100000000000000000000, rfl, by unfold cooB; simp; omega⟩
      · exact ⟨-1, rfl, by unfold cooB; simp⟩
      · exact ⟨-9, rfl, by unfold cooB; simp⟩
    simp only [fIx_lst] at hq
    rcases (by omega : v = 0 ∨ v = 1 ∨ v = 2) with rfl | rfl | rfl
    · refine ⟨fs p.f, q, p.y, p.z, s2, fs_ok _, h2, ?_, by rw [il, hqo]; simp⟩
      unfold F_l_law_none runF b_l_law_none
      simp [env0, evPart, hsl, cD, sizeLine, evCall, e1, e2, hp, hq, evSet, storeD, ixN, i0]
    · refine ⟨fs p.f, p.x, q, p.z, s2, fs_ok _, h2, ?_, by rw [il, hqo]; simp⟩
      unfold F_l_law_none runF b_l_law_none
      simp [env0, evPart, hsl, cD, sizeLine, evCall, e1, e2, hp, hq, evSet, storeD, ixN, i0]
    · refine ⟨fs p.f, p.x, p.y, q, s2, fs_ok _, h2, ?_, by rw [il, hqo]; simp⟩
      unfold F_l_law_none runF b_l_law_none
      simp [env0, evPart, hsl, cD, sizeLine, evCall, e1, e2, hp, hq, evSet, storeD, ixN, i0]
  · by_cases c4 : v = 3
    · subst c4
      obtain ⟨f, x, y, z⟩ := p
      simp only [Pl.dp] at *
      cases f
      all_goals simp only [dep, fax] at *
      · have ne : ¬ dep n .R (n - 1 - x) (y) (z) = 1 := by simp only [dep]; omega
        refine ⟨fs .R, n - 1 - x, y, z, s1, fs_ok _, h1, ?_, by rw [is_place_eq hn, decide_eq_false ne]; simp⟩
        unfold F_l_law_none runF b_l_law_none
        simp [env0, evPart, hsl, cD, sizeLine, evCall, e1, evSet, storeD, ixN, i0, hf, d2, hx]
      · have ne : ¬ dep n .L (n - 1 - x) (y) (z) = 1 := by simp only [dep]; omega
        refine ⟨fs .L, n - 1 - x, y, z, s1, fs_ok _, h1, ?_, by rw [is_place_eq hn, decide_eq_false ne]; simp⟩
        unfold F_l_law_none runF b_l_law_none
        simp [env0, evPart, hsl, cD, sizeLine, evCall, e1, evSet, storeD, ixN, i0, hf, d2, hx]
      · have ne : ¬ dep n .U (x) (n - 1 - y) (z) = 1 := by simp only [dep]; omega
        refine ⟨fs .U, x, n - 1 - y, z, s1, fs_ok _, h1, ?_, by rw [is_place_eq hn, decide_eq_false ne]; simp⟩
        unfold F_l_law_none runF b_l_law_none
        simp [env0, evPart, hsl, cD, sizeLine, evCall, e1, evSet, storeD, ixN, i0, hf, d2, hx]
      · have ne : ¬ dep n .D (x) (n - 1 - y) (z) = 1 := by simp only [dep]; omega
        refine ⟨fs .D, x, n - 1 - y, z, s1, fs_ok _, h1, ?_, by rw [is_place_eq hn, decide_eq_false ne]; simp⟩
        unfold F_l_law_none runF b_l_law_none
        simp [env0, evPart, hsl, cD, sizeLine, evCall, e1, evSet, storeD, ixN, i0, hf, d2, hx]
      · have ne : ¬ dep n .F (x) (y) (n - 1 - z) = 1 := by simp only [dep]; omega
        refine ⟨fs .F, x, y, n - 1 - z, s1, fs_ok _, h1, ?_, by rw [is_place_eq hn, decide_eq_false ne]; simp⟩
        unfold F_l_law_none runF b_l_law_none
        simp [env0, evPart, hsl, cD, sizeLine, evCall, e1, evSet, storeD, ixN, i0, hf, d2, hx]
      · have ne : ¬ dep n .B (x) (y) (n - 1 - z) = 1 := by simp only [dep]; omega
        refine ⟨fs .B, x, y, n - 1 - z, s1, fs_ok _, h1, ?_, by rw [is_place_eq hn, decide_eq_false ne]; simp⟩
        unfold F_l_law_none runF b_l_law_none
        simp [env0, evPart, hsl, cD, sizeLine, evCall, e1, evSet, storeD, ixN, i0, hf, d2, hx]
    · obtain ⟨q, hq, hqo, hqf⟩ : ∃ q : Str, fIx (.lst [.str "", .str "x", .str "RL", .str "r"]) (.int w) = some (.str q) ∧ PyData.strOk q = true ∧ isFace q = false := by
        rcases (by omega : w = 0 ∨ w = 1 ∨ w = 2 ∨ w = 3) with rfl | rfl | rfl | rfl
        · exact ⟨"", rfl, by decide +kernel, by decide +kernel⟩
        · exact ⟨"x", rfl, by decide +kernel, by decide +kernel⟩
        · exact ⟨"RL", rfl, by decide +kernel, by decide +kernel⟩
        · exact ⟨"r", rfl, by decide +kernel, by decide +kernel⟩
      simp only [fIx_lst] at hq
      refine ⟨q, p.x, p.y, p.z, s2, hqo, h2, ?_, is_place_nof hn hqf _ _ _⟩
      unfold F_l_law_none runF b_l_law_none
      simp [env0, evPart, hsl, cD, sizeLine, evCall, e1, e2, c3, c4, hq, i0, hf, d2]
end C

set_option maxRecDepth 100000
set_option maxHeartbeats 4000000
namespace C
open PySem L2
/-- a loop that adds to a list -/
theorem forE_app {α : Type} {g : D → Env → Option Env} {b : Env → SR} (φ : α → D) (ψ : α → List D) (P : List D → Env → Prop) (N : Nat) : ∀ (l : List α) (acc : List D) (env : Env), P acc env → (∀ x ∈ l, ∀ acc env, P acc env → acc.length + (ψ x).length ≤ N → ∃ e1 e2, g (φ x) env = some e1 ∧ b e1 = .nx e2 ∧ P (acc ++ ψ x) e2) → acc.length + (l.flatMap ψ).length ≤ N → ∃ e', forE g b (l.map φ) env = .nx e' ∧ P (acc ++ l.flatMap ψ) e'
  | [], acc, env, h, _, _ => ⟨env, rfl, by simpa using h⟩
  | x :: l, acc, env, hP, h, hl => by
    have hl' : acc.length + ((ψ x).length + (l.flatMap ψ).length) ≤ N := by simpa using hl
    obtain ⟨e1, e2, h1, h2, h3⟩ := h x List.mem_cons_self acc env hP (by omega)
    obtain ⟨e', k1, k2⟩ := forE_app φ ψ P N l (acc ++ ψ x) e2 h3 (fun y hy => h y (List.mem_cons_of_mem _ hy)) (by rw [List.length_append]; omega)
    refine ⟨e', ?_, by simpa using k2⟩
    rw [List.map_cons]
    unfold forE
    simp only [h1, h2]
    exact k1
/-- the place at i, j of a face -/
def plIJ (n : Int) (f : Fc) (i j : Int) : Pl := match f with
  | .R => ⟨.R, n - 1, i, j⟩ | .L => ⟨.L, 0, i, j⟩ | .U => ⟨.U, i, n - 1, j⟩ | .D => ⟨.D, i, 0, j⟩ | .F => ⟨.F, i, j, n - 1⟩ | .B => ⟨.B, i, j, 0⟩
def rawQ (n : Int) : List Pl := ordF.flatMap fun f => (rng n).flatMap fun i => (rng n).map fun j => plIJ n f i j
theorem plIJ_f (n : Int) (f : Fc) (i j : Int) : (plIJ n f i j).f = f := by cases f <;> rfl
theorem mem_rawQ {n : Int} {p : Pl} (hn : 2 ≤ n) : p ∈ rawQ n ↔ p.ok n := by
  unfold rawQ
  simp only [List.mem_flatMap, List.mem_map, mem_rng]
  constructor
  · rintro ⟨f, _, i, hi, j, hj, rfl⟩
    cases f <;> refine ⟨?_, ?_, ?_, ?_⟩ <;> simp only [plIJ, Pl.dp, dep] <;> omega
  · rintro ⟨hx, hy, hz, hd⟩
    obtain ⟨f, x, y, z⟩ := p
    simp only [Pl.dp] at hx hy hz hd
    cases f <;> simp only [dep] at hd
    · exact ⟨.R, by decide, y, hy, z, hz, by simp only [plIJ, Pl.mk.injEq, true_and, and_true]; omega⟩
    · exact ⟨.L, by decide, y, hy, z, hz, by simp only [plIJ, Pl.mk.injEq, true_and, and_true]; omega⟩
    · exact ⟨.U, by decide, x, hx, z, hz, by simp only [plIJ, Pl.mk.injEq, true_and, and_true]; omega⟩
    · exact ⟨.D, by decide, x, hx, z, hz, by simp only [plIJ, Pl.mk.injEq, true_and, and_true]; omega⟩
    · exact ⟨.F, by decide, x, hx, y, hy, by simp only [plIJ, Pl.mk.injEq, true_and, and_true]; omega⟩
    · exact ⟨.B, by decide, x, hx, y, hy, by simp only [plIJ, Pl.mk.injEq, true_and, and_true]; omega⟩
theorem plIJ_inj {n : Int} {f : Fc} {i j i' j' : Int} (h : plIJ n f i j = plIJ n f i' j') : i = i' ∧ j = j' := by
  cases f <;> simp only [plIJ, Pl.mk.injEq] at h <;> omega
theorem rawQ_nodup (n : Int) : (rawQ n).Nodup := by
  unfold rawQ List.Nodup
  rw [List.pairwise_flatMap]
  refine ⟨fun f _ => ?_, ?_⟩
  · rw [List.pairwise_flatMap]
    refine ⟨fun i _ => ?_, (rng_lt n).imp fun {i i'} h => ?_⟩
    · rw [List.pairwise_map]
      exact (rng_lt n).imp fun {j j'} h e => by have := (plIJ_inj e).2; omega
    · intro p hp q hq e
      obtain ⟨j, _, rfl⟩ := List.mem_map.mp hp
      obtain ⟨j', _, rfl⟩ := List.mem_map.mp hq
      have := (plIJ_inj e).1
      omega
  · have : ordF.Nodup := by decide
    refine this.imp fun {f f'} h => ?_
    intro p hp q hq e
    obtain ⟨i, _, hp⟩ := List.mem_flatMap.mp hp
    obtain ⟨j, _, rfl⟩ := List.mem_map.mp hp
    obtain ⟨i', _, hq⟩ := List.mem_flatMap.mp hq
    obtain ⟨j', _, rfl⟩ := List.mem_map.mp hq
    have := congrArg Pl.f e
    rw [plIJ_f, plIJ_f] at this
    exact h this
theorem rawQ_perm {n : Int} (hn : 2 ≤ n) : (placesL n).Perm (rawQ n) := (List.perm_ext_iff_of_nodup (places_nodup n) (rawQ_nodup n)).mpr fun p => by rw [mem_places, mem_rawQ hn]
theorem rawQ_len (n : Int) : (rawQ n).length = 6 * (n.toNat * n.toNat) := by
  unfold rawQ ordF
  simp [List.length_flatMap, rng_len, List.map_const', List.sum_replicate_nat]
  omega
theorem places_len {n : Int} (hn : 2 ≤ n) : (placesL n).length = 6 * (n.toNat * n.toNat) := by rw [(rawQ_perm hn).length_eq, rawQ_len]
end C

set_option maxRecDepth 100000
set_option maxHeartbeats 4000000
namespace C
open PySem L2
/-! _law_places -/
def jB : CB := (CB.cons (CS.setF 7 (CF.lst (CA.cons (CE.var 5) (CA.cons (CE.var 6) CA.nil))))
    (CB.cons (CS.expr (CE.mo mInsert 7 (CA.cons (CE.bin oDiv (CE.var 3) (CE.int 2)) (CA.cons (CE.var 4) CA.nil))))
    (CB.cons (CS.expr (CE.mo mAppend 1 (CA.cons (CE.tup (CA.cons (CE.var 2) (CA.cons (CE.ix (CE.bvar 7) (CE.int 0)) (CA.cons (CE.ix (CE.bvar 7) (CE.int 1)) (CA.cons (CE.ix (CE.bvar 7) (CE.int 2)) CA.nil))))) CA.nil)))
    CB.nil)))
def iB : CB := (CB.cons (CS.for_ (CG.name 6) (CI.range1 (CE.var 0)) jB) CB.nil)
def fB : CB := (CB.cons (CS.asg (CG.name 3) (CE.bm mStrFind (CE.str "RLUDFB") (CM.cons (CE.var 2) CM.nil)))
    (CB.cons (CS.asg (CG.name 4) (CE.ite (CT.cmp cEq (CE.bin oMod (CE.var 3) (CE.int 2)) (CE.int 0)) (CE.bin oSub (CE.var 0) (CE.int 1)) (CE.int 0)))
    (CB.cons (CS.for_ (CG.name 5) (CI.range1 (CE.var 0)) iB)
    CB.nil)))
def edg (n : Int) (f : Fc) : Int := match f with
  | .R | .U | .F => n - 1
  | _ => 0
theorem ins0 (a b x : D) : mInsert.f (.lst [a, b]) [.int 0, x] = some (.non, .lst [x, a, b]) := rfl
theorem ins1 (a b x : D) : mInsert.f (.lst [a, b]) [.int 1, x] = some (.non, .lst [a, x, b]) := rfl
theorem ins2 (a b x : D) : mInsert.f (.lst [a, b]) [.int 2, x] = some (.non, .lst [a, b, x]) := rfl
theorem j_step (n : Int) (f : Fc) (i j : Int) (v7 : Option D) (acc : List D) (hz : acc.length < sizeLine) : ∃ w, jB.ev [some (.int n), some (.lst acc), some (.str (fs f)), some (.int (fcN f)), some (.int (edg n f)), some (.int i), some (.int j), v7] = .nx [some (.int n), some (.lst (acc ++ [(plIJ n f i j).d])), some (.str (fs f)), some (.int (fcN f)), some (.int (edg n f)), some (.int i), some (.int j), w] := by
  have d2 : divB 2 = true := by decide
  refine ⟨some (.lst [.int (plIJ n f i j).x, .int (plIJ n f i j).y, .int (plIJ n f i j).z]), ?_⟩
  have hz' : acc.length < 16777216 := hz
  unfold jB
  cases f <;> simp [sizeLine, fcN, edg, ins0, ins1, ins2, d2, hz', plIJ, Pl.d]
theorem fm_one {α β : Type} (f : α → β) : ∀ l : List α, l.flatMap (fun x => [f x]) = l.map f
  | [] => rfl
  | x :: l => by rw [List.flatMap_cons, fm_one f l]; rfl
theorem i_step {n : Int} (h0 : 0 ≤ n) (h1 : n ≤ 100) (f : Fc) (i : Int) (v6 v7 : Option D) (acc : List D) (hz : acc.length + n.toNat ≤ sizeLine) : ∃ w6 w7, iB.ev [some (.int n), some (.lst acc), some (.str (fs f)), some (.int (fcN f)), some (.int (edg n f)), some (.int i), v6, v7] = .nx [some (.int n), some (.lst (acc ++ ((rng n).map fun j => plIJ n f i j).map Pl.d)), some (.str (fs f)), some (.int (fcN f)), some (.int (edg n f)), some (.int i), w6, w7] := by
  have hq : rgB n = true := rgB_small (by omega) (by omega)
  obtain ⟨e', k1, w6, w7, rfl⟩ := forE_app (g := (CG.name 6).asg) (b := jB.ev) D.int (fun j => [(plIJ n f i j).d]) (fun acc env => ∃ w6 w7, env = [some (.int n), some (.lst acc), some (.str (fs f)), some (.int (fcN f)), some (.int (edg n f)), some (.int i), w6, w7]) sizeLine (rng n) acc _ ⟨v6, v7, rfl⟩ (fun j _ acc env hP hl => by
    obtain ⟨w6, w7, rfl⟩ := hP
    obtain ⟨w, h⟩ := j_step n f i j w7 acc (by simp at hl; omega)
    exact ⟨_, _, rfl, h, some (.int j), w, rfl⟩) (by simp [List.length_flatMap, List.map_const', List.sum_replicate_nat, rng_len]; exact hz)
  refine ⟨w6, w7, ?_⟩
  unfold iB
  have e : (rng n).flatMap (fun j => [(plIJ n f i j).d]) = ((rng n).map fun j => plIJ n f i j).map Pl.d := by
    rw [List.map_map]
    exact fm_one _ _
  rw [e] at k1
  simp [evR1, hq, rangeD_rng, k1]
theorem f_step {n : Int} (h0 : 0 ≤ n) (h1 : n ≤ 100) (f : Fc) (v3 v4 v5 v6 v7 : Option D) (acc : List D) (hz : acc.length + n.toNat * n.toNat ≤ sizeLine) : ∃ w3 w4 w5 w6 w7, fB.ev [some (.int n), some (.lst acc), some (.str (fs f)), v3, v4, v5, v6, v7] = .nx [some (.int n), some (.lst (acc ++ ((rng n).flatMap fun i => (rng n).map fun j => plIJ n f i j).map Pl.d)), some (.str (fs f)), w3, w4, w5, w6, w7] := by
  have hq : rgB n = true := rgB_small (by omega) (by omega)
  obtain ⟨e', k1, w5, w6, w7, rfl⟩ := forE_app (g := (CG.name 5).asg) (b := iB.ev) D.int (fun i => ((rng n).map fun j => plIJ n f i j).map Pl.d) (fun acc env => ∃ w5 w6 w7, env = [some (.int n), some (.lst acc), some (.str (fs f)), some (.int (fcN f)), some (.int (edg n f)), w5, w6, w7]) sizeLine (rng n) acc _ ⟨v5, v6, v7, rfl⟩ (fun i _ acc env hP hl => by
    obtain ⟨w5, w6, w7, rfl⟩ := hP
    obtain ⟨w6', w7', h⟩ := i_step h0 h1 f i w6 w7 acc (by simpa [rng_len] using hl)
    exact ⟨_, _, rfl, h, some (.int i), w6', w7', rfl⟩) (by simp [List.length_flatMap, List.map_const', List.sum_replicate_nat, rng_len]; exact hz)
  refine ⟨some (.int (fcN f)), some (.int (edg n f)), w5, w6, w7, ?_⟩
  have e : (rng n).flatMap (fun i => ((rng n).map fun j => plIJ n f i j).map Pl.d) = ((rng n).flatMap fun i => (rng n).map fun j => plIJ n f i j).map Pl.d := by
    rw [List.map_flatMap]
  rw [e] at k1
  have d2 : divB 2 = true := by decide
  have hf := find_fc f
  unfold fB
  have he : (if (fcN f : Int) % 2 = 0 then n - 1 else 0) = edg n f := by cases f <;> rfl
  by_cases c : (fcN f : Int) % 2 = 0
  · rw [if_pos c] at he
    simp [hf, d2, c, he, evR1, hq, rangeD_rng, k1]
  · rw [if_neg c] at he
    rw [← he] at k1 ⊢
    simp [hf, d2, c, evR1, hq, rangeD_rng, k1]
theorem law_places_eq {n : Int} (h0 : 2 ≤ n) (h1 : n ≤ 20) : F_l_law_places [.int n] = .ret (.lst ((placesL n).map Pl.d)) [] := by
  have hn : n.toNat ≤ 20 := by omega
  have hm : n.toNat * n.toNat ≤ 20 * 20 := Nat.mul_le_mul hn hn
  obtain ⟨e', k1, w2, w3, w4, w5, w6, w7, rfl⟩ := forE_app (g := (CG.name 2).asg) (b := fB.ev) (fun f => D.str (fs f)) (fun f => ((rng n).flatMap fun i => (rng n).map fun j => plIJ n f i j).map Pl.d) (fun acc env => ∃ w2 w3 w4 w5 w6 w7, env = [some (.int n), some (.lst acc), w2, w3, w4, w5, w6, w7]) sizeLine ordF [] _ ⟨none, none, none, none, none, none, rfl⟩ (fun f _ acc env hP hl => by
    obtain ⟨w2, w3, w4, w5, w6, w7, rfl⟩ := hP
    obtain ⟨w3', w4', w5', w6', w7', h⟩ := f_step (n := n) (by omega) (by omega) f w3 w4 w5 w6 w7 acc (by simpa [rng_len, List.length_flatMap, List.map_const', List.sum_replicate_nat] using hl)
    exact ⟨_, _, rfl, h, some (.str (fs f)), w3', w4', w5', w6', w7', rfl⟩) (by
      have := rawQ_len n
      unfold rawQ at this
      rw [← List.map_flatMap, List.length_map, this]
      unfold sizeLine
      simp
      omega)
  have e : ordF.flatMap (fun f => ((rng n).flatMap fun i => (rng n).map fun j => plIJ n f i j).map Pl.d) = (rawQ n).map Pl.d := by
    unfold rawQ
    rw [List.map_flatMap]
  rw [e] at k1
  have hl : (rawQ n).length ≤ sizeLine := by
    rw [rawQ_len]
    unfold sizeLine
    omega
  have hs := sortD_pls (rawQ_perm h0) (places_lt n) hl
  have it : iterD (.str "BDFLRU") = some (ordF.map fun f => D.str (fs f)) := by kernel_rfl
  unfold F_l_law_places runF b_l_law_places
  unfold fB iB jB at k1
  simp [env0, sizeLine, it, k1, hs]
end C

set_option maxRecDepth 100000
set_option maxHeartbeats 4000000
namespace C
open PySem L2 PySem.W PyProof.Rows
/-! _law_cells_faces -/
def cfB : CB := (CB.cons (CS.if_ (CT.cmp cEq (CE.ix (CE.var 1) (CE.bin oDiv (CE.var 3) (CE.int 2))) (CE.ix (CE.ofF (CF.lst (CA.cons (CE.bin oSub (CE.var 0) (CE.int 1)) (CA.cons (CE.int 0) CA.nil)))) (CE.bin oMod (CE.var 3) (CE.int 2))))
    (CB.cons (CS.expr (CE.mo mAppend 2 (CA.cons (CE.ix (CE.str "RLUDFB") (CE.var 3)) CA.nil)))
    CB.nil)
    CB.nil)
    CB.nil)
theorem side_f (f : Fc) : fIx (.str "RLUDFB") (.int (fcN f)) = some (.str (fs f)) := by cases f <;> kernel_rfl
theorem cf_step (n x y z : Int) (f : Fc) (acc : List D) (hz : acc.length < sizeLine) : cfB.ev [some (.int n), some (cD x y z), some (.lst acc), some (.int (fcN f))] = .nx [some (.int n), some (cD x y z), some (.lst (acc ++ if dep n f x y z = 1 then [.str (fs f)] else [])), some (.int (fcN f))] := by
  have d2 : divB 2 = true := by decide
  have hz' : acc.length < 16777216 := hz
  have s0 : fIx (.str "RLUDFB") (.int 0) = some (.str (fs .R)) := by kernel_rfl
  have s1 : fIx (.str "RLUDFB") (.int 1) = some (.str (fs .L)) := by kernel_rfl
  have s2 : fIx (.str "RLUDFB") (.int 2) = some (.str (fs .U)) := by kernel_rfl
  have s3 : fIx (.str "RLUDFB") (.int 3) = some (.str (fs .D)) := by kernel_rfl
  have s4 : fIx (.str "RLUDFB") (.int 4) = some (.str (fs .F)) := by kernel_rfl
  have s5 : fIx (.str "RLUDFB") (.int 5) = some (.str (fs .B)) := by kernel_rfl
  have ex : (x = n - 1) = (n - x = 1) := by rw [eq_iff_iff]; omega
  have ey : (y = n - 1) = (n - y = 1) := by rw [eq_iff_iff]; omega
  have ez : (z = n - 1) = (n - z = 1) := by rw [eq_iff_iff]; omega
  have ex0 : (x + 1 = 1) = (x = 0) := by rw [eq_iff_iff]; omega
  have ey0 : (y + 1 = 1) = (y = 0) := by rw [eq_iff_iff]; omega
  have ez0 : (z + 1 = 1) = (z = 0) := by rw [eq_iff_iff]; omega
  unfold cfB cD
  cases f <;> simp only [fcN, dep]
  · by_cases c : n - x = 1
    · simp [d2, c, ex, sizeLine, hz', s0]
    · simp [d2, c, ex, ex0, sizeLine, hz', s0]
  · by_cases c : x = 0
    · simp [d2, c, ex, sizeLine, hz', s1]
    · simp [d2, c, ex, ex0, sizeLine, hz', s1]
  · by_cases c : n - y = 1
    · simp [d2, c, ey, sizeLine, hz', s2]
    · simp [d2, c, ey, ey0, sizeLine, hz', s2]
  · by_cases c : y = 0
    · simp [d2, c, ey, sizeLine, hz', s3]
    · simp [d2, c, ey, ey0, sizeLine, hz', s3]
  · by_cases c : n - z = 1
    · simp [d2, c, ez, sizeLine, hz', s4]
    · simp [d2, c, ez, ez0, sizeLine, hz', s4]
  · by_cases c : z = 0
    · simp [d2, c, ez, sizeLine, hz', s5]
    · simp [d2, c, ez, ez0, sizeLine, hz', s5]
theorem fm_filter {α β : Type} (f : α → β) (p : α → Prop) [DecidablePred p] : ∀ l : List α, l.flatMap (fun x => if p x then [f x] else []) = (l.filter fun x => decide (p x)).map f
  | [] => rfl
  | x :: l => by
    rw [List.flatMap_cons, fm_filter f p l]
    by_cases c : p x <;> simp [c]
theorem cells_faces_eq (n x y z : Int) : F_l_law_cells_faces [.int n, cD x y z] = .ret (.lst ((facesC n (x, y, z)).map fun f => D.str (fs f))) [] := by
  obtain ⟨e', k1, w3, rfl⟩ := forE_app (g := (CG.name 3).asg) (b := cfB.ev) (fun f => D.int (fcN f)) (fun f => if dep n f x y z = 1 then [D.str (fs f)] else []) (fun acc env => ∃ w3, env = [some (.int n), some (cD x y z), some (.lst acc), w3]) 100 sixF [] _ ⟨none, rfl⟩ (fun f _ acc env hP hl => by
    obtain ⟨w3, rfl⟩ := hP
    exact ⟨_, _, rfl, cf_step n x y z f acc (by unfold sizeLine; omega), some (.int (fcN f)), rfl⟩) (by
      rw [fm_filter, List.length_map]
      have : (sixF.filter fun f => decide (dep n f x y z = 1)).length ≤ 6 := List.length_filter_le ..
      simp
      omega)
  rw [fm_filter] at k1
  have hr : rangeD 0 6 = sixF.map fun f => D.int (fcN f) := by kernel_rfl
  have hq : rgB 6 = true := by decide
  unfold F_l_law_cells_faces runF b_l_law_cells_faces
  unfold cfB at k1
  unfold facesC
  simp [env0, sizeLine, evR1, hq, hr, k1]
/-! clockwise -/
theorem clock_all : (axL.all fun L => L.all fun f => (pcF L f).length != 3 || (match pcF L f with | [a, b, c] => (match F_l_law_clockwise [.str (fs a), .str (fs b), .str (fs c)] with | .ret (.bl true) [] => true | _ => false) | _ => false)) = true := by kernel_rfl
theorem clock_ok {L : List Fc} (h : L ∈ axL) {f : Fc} (hf : f ∈ L) (h3 : (pcF L f).length = 3) : ∃ a b c, pcF L f = [a, b, c] ∧ F_l_law_clockwise [.str (fs a), .str (fs b), .str (fs c)] = .ret (.bl true) [] := by
  have := List.all_eq_true.mp (List.all_eq_true.mp clock_all L h) f hf
  rw [h3] at this
  simp only [bne_self_eq_false, Bool.false_or] at this
  split at this
  · rename_i a b c e
    split at this
    · rename_i e2
      exact ⟨a, b, c, e, e2⟩
    · cases this
  · cases this
/-! sorted faces -/
def srtF (L : List Fc) : List Fc := ordF.filter fun f => L.contains f
theorem perm_all : (axL.all fun L => ((srtF L).isPerm L) && L.all fun f => ((srtF L).isPerm (pcF L f)) && (match pcF L f with | a :: _ => decide (a = f) | _ => false)) = true := by decide +kernel
theorem fs_dlt (f g : Fc) : dataLt (encD (.str (fs f))) (encD (.str (fs g))) = decide (fcO f < fcO g) := fs_lt f g
theorem sortD_fs {l : List Fc} {L : List Fc} (hp : (srtF L).Perm l) (hl : l.length ≤ sizeLine) : sortD (.lst (l.map fun f => D.str (fs f))) = some (.lst ((srtF L).map fun f => D.str (fs f))) := by
  show (if sortB (l.map fun f => D.str (fs f)) = true then some (D.lst ((l.map fun f => D.str (fs f)).mergeSort (dataLe false encD))) else none) = _
  rw [if_pos (sortB_of (fun f => D.str (fs f)) (fun f => PyData.str (fs f)) (fun _ => rfl) (fun _ _ => by simp [alike]) (.inr fun _ => rfl) (fun _ => by simp [PyData.depth]) hl)]
  rw [sort_is (fun f => D.str (fs f)) (fun x y => decide (fcO x < fcO y)) fs_dlt (fun x y h1 h2 => fcO_inj (by simp at h1 h2; omega)) (fun x y z h1 h2 => by simp at h1 h2 ⊢; omega) (fun x y h => by simp at h ⊢; omega) hp ?_]
  have : ordF.Pairwise fun x y => decide (fcO y < fcO x) = false := by decide
  exact this.filter _
theorem pc_perm {L : List Fc} (h : L ∈ axL) {f : Fc} (hf : f ∈ L) : (srtF L).Perm L ∧ (srtF L).Perm (pcF L f) ∧ ∃ r, pcF L f = f :: r := by
  have h1 := List.all_eq_true.mp perm_all L h
  simp only [Bool.and_eq_true] at h1
  have h2 := List.all_eq_true.mp h1.2 f hf
  simp only [Bool.and_eq_true] at h2
  refine ⟨List.isPerm_iff.mp h1.1, List.isPerm_iff.mp h2.1, ?_⟩
  have h3 := h2.2
  split at h3
  · rename_i a r e
    rw [of_decide_eq_true h3] at e
    exact ⟨r, e⟩
  · cases h3
end C

set_option maxRecDepth 100000
set_option maxHeartbeats 4000000
namespace C
open PySem L2 PySem.W PyProof.Rows
theorem minF_2 (a b : Int) : minF [.int a, .int b] = some (.int (min a b)) := by
  unfold minF
  simp only [Option.some.injEq, D.int.injEq]
  split <;> omega
theorem law_kind_eq {n : Int} {p : Pl} (h : p.ok n) : F_l_law_kind [.int n, cD p.x p.y p.z] = .ret (p.kd n).d [] := by
  have hs := sortD_ints (l := [ls n p.x, ls n p.y, ls n p.z]) (sort3_perm (ls n p.x) (ls n p.y) (ls n p.z)) (by have := sort3_le (ls n p.x) (ls n p.y) (ls n p.z); simp; omega) (by unfold sizeLine; simp)
  unfold Pl.kd
  have hle := sort3_le (ls n p.x) (ls n p.y) (ls n p.z)
  have h1 : 1 ≤ (sort3 (ls n p.x) (ls n p.y) (ls n p.z)).1 := by
    have hm := (sort3_perm (ls n p.x) (ls n p.y) (ls n p.z)).mem_iff.mp List.mem_cons_self
    have q : ∀ c : Int, 0 ≤ c → c < n → 1 ≤ ls n c := fun c h1 h2 => by unfold ls; omega
    simp only [List.mem_cons, List.not_mem_nil, or_false] at hm
    rcases hm with e | e | e <;> rw [e]
    · exact q _ h.hx.1 h.hx.2
    · exact q _ h.hy.1 h.hy.2
    · exact q _ h.hz.1 h.hz.2
  generalize sort3 (ls n p.x) (ls n p.y) (ls n p.z) = s at hs hle h1 ⊢
  obtain ⟨a, b, c⟩ := s
  simp only at hle h1
  simp only [List.map_cons, List.map_nil] at hs
  unfold F_l_law_kind runF b_l_law_kind cD
  simp [env0]
  rw [lc_ok D.int (fun c => D.int (ls n c)) [p.x, p.y, p.z] (by simp) (fun c _ => by simp [bMin_2, ls]) (by simp) (by unfold sizeLine; simp)]
  simp [hs]
  rw [lc_flt D.int D.int (fun d => decide (d = 1)) [a, b, c] (by simp) (fun d _ => by simp) (fun d _ => by simp) (by simp) (by unfold sizeLine; simp)]
  unfold kdS
  by_cases c3 : c = 1
  · have e1 : a = 1 := by omega
    have e2 : b = 1 := by omega
    subst c3 e1 e2
    simp [Kd.d, sizeLine]
  · by_cases c2 : b = 1
    · have e1 : a = 1 := by omega
      subst c2 e1
      by_cases m2 : 2 * c = n + 1 <;> simp [c3, m2, mulB_l, Kd.d, sizeLine]
    · by_cases c1 : a = 1
      · subst c1
        by_cases m1 : 2 * b = n + 1 <;> simp [c2, c3, m1, mulB_l, Kd.d, sizeLine]
      · by_cases m1 : 2 * b = n + 1 <;> simp [c1, c2, c3, m1, mulB_l, Kd.d, sizeLine]
theorem eq_kd (k : Kd) : eqF k.d k.d = some true := by
  have o1 : PyData.strOk "corner" = true := by decide +kernel
  have o2 : PyData.strOk "edge" = true := by decide +kernel
  have o3 : PyData.strOk "wing" = true := by decide +kernel
  have o4 : PyData.strOk "centre" = true := by decide +kernel
  have o5 : PyData.strOk "middle" = true := by decide +kernel
  cases k <;> simp [Kd.d, SeqAt.shaped, PyData.canLay0, PyData.canLayAll0, PyData.depth, PyData.depthAll, PyData.eqv, PyData.eqvAll, o1, o2, o3, o4, o5]
theorem eq_pl (p : Pl) : eqF p.d p.d = some true := by
  unfold Pl.d
  simp [SeqAt.shaped, PyData.canLay0, PyData.canLayAll0, PyData.depth, PyData.depthAll, PyData.eqv, PyData.eqvAll, fs_ok]
theorem eq_cell (x y z : Int) : eqF (cD x y z) (cD x y z) = some true := by
  unfold cD
  simp [SeqAt.shaped, PyData.canLay0, PyData.canLayAll0, PyData.depth, PyData.depthAll, PyData.eqv, PyData.eqvAll]
theorem eq_nil : eqF (.lst []) (.lst []) = some true := by kernel_rfl
end C

set_option maxRecDepth 100000
set_option maxHeartbeats 4000000
namespace C
open PySem L2 PySem.W PyProof.Rows
theorem ix_f (p : Pl) : fIx p.d (.int 0) = some (.str (fs p.f)) := rfl
theorem place_holds {n : Int} (hn : 2 ≤ n) {p : Pl} (h : p.ok n) : F_l_law_place_holds [.int n, p.d] = .ret (.bl true) [] := by
  have hp := piece_eq hn h
  have hsl := slice_cell p
  have hcf := cells_faces_eq n p.x p.y p.z
  have hk := kind_eq hn h
  have hlk := law_kind_eq h
  have hi := is_place_ok hn h
  have hm : p.f ∈ facesC n (p.x, p.y, p.z) := mem_facesC.mpr h.hd
  have hx := faces_ax hn (p.x, p.y, p.z)
  have hfl : (facesC n (p.x, p.y, p.z)).length ≤ 6 := List.length_filter_le ..
  have hpl := pcF_len (facesC n (p.x, p.y, p.z)) p.f
  generalize facesC n (p.x, p.y, p.z) = L at hp hcf hm hx hfl hpl
  obtain ⟨pm1, pm2, r, er⟩ := pc_perm hx hm
  have s1 := sortD_fs (L := L) pm1 (by unfold sizeLine; omega)
  have s2 := sortD_fs (L := L) (l := pcF L p.f) pm2 (by unfold sizeLine; omega)
  have eq1 := eq_fs (srtF L)
  have hck := clock_ok hx hm
  generalize hq : pcF L p.f = qs at *
  have hz : qs.length ≤ sizeLine := by unfold sizeLine; omega
  have hz9 : qs.length < 10 ^ 9 := by omega
  have q0 : qs[0]? = some p.f := by rw [er]; rfl
  have heta : (⟨p.f, p.x, p.y, p.z⟩ : Pl) = p := rfl
  have hz' : qs.length < 16777216 := by omega
  generalize hN : (10 ^ 9 : Nat) = N at hz9
  unfold F_l_law_place_holds runF b_l_law_place_holds
  rw [hN]
  simp [env0, evPart, hsl, evCall, hp]
  rw [lci_ok (fun g => (⟨g, p.x, p.y, p.z⟩ : Pl).d) (fun g => D.str (fs g)) qs rfl (by decide) (fun g _ => by simp [ix_f]) (by simp) hz hz9]
  simp [evCall, q0, heta, eq_pl, s1, s2, hcf, eq1, hk, hlk, eq_kd, -eqF_lst, -eqF_tup]
  rw [lci_flt (fun g => (⟨g, p.x, p.y, p.z⟩ : Pl).d) (fun g => (⟨g, p.x, p.y, p.z⟩ : Pl).d) (fun _ => false) qs rfl (by decide) (fun g _ => by simp [evPart, slice_cell, eq_cell, -eqF_tup]) (fun g _ => by simp) (by simp) hz hz9]
  have hf0 : qs.filter (fun _ => false) = [] := List.filter_eq_nil_iff.mpr fun _ _ => by simp
  rw [hf0]
  simp [eq_nil, evCall, hi, -eqF_lst]
  by_cases c3 : qs.length = 3
  · obtain ⟨a, b, c, e3, ck⟩ := hck c3
    simp [c3, e3, evCall, ck, sizeLine, hp]
  · have c3' : ¬ (qs.length : Int) = 3 := by omega
    simp [c3, c3', hz', sizeLine, evCall, hp]
end C

set_option maxRecDepth 100000
set_option maxHeartbeats 4000000
namespace C
open PySem L2 PySem.W PyProof.Rows
theorem ref_size (v : D) (e : Env) : evG g_l_law_refused (.exc "InvalidSize" [("n", v)] e) = .ok (.lst [.str "size", v]) e := by kernel_rfl
theorem ref_large (v : D) (e : Env) : evG g_l_law_refused (.exc "TooLarge" [("n", v)] e) = .ok (.lst [.str "large", v]) e := by kernel_rfl
theorem ref_place (v : D) (e : Env) : evG g_l_law_refused (.exc "InvalidPlace" [("place", v)] e) = .ok (.lst [.str "place", v]) e := by kernel_rfl
theorem eq_si {x : Str} (h : PyData.strOk x = true) (i : Int) : eqF (.lst [.str x, .int i]) (.lst [.str x, .int i]) = some true := by
  simp [SeqAt.shaped, PyData.canLay0, PyData.canLayAll0, PyData.depth, PyData.depthAll, PyData.eqv, PyData.eqvAll, h]
theorem eq_sw {x f : Str} (h : PyData.strOk x = true) (k : PyData.strOk f = true) (a b c : Int) : eqF (.lst [.str x, .tup [.str f, .int a, .int b, .int c]]) (.lst [.str x, .tup [.str f, .int a, .int b, .int c]]) = some true := by
  simp [SeqAt.shaped, PyData.canLay0, PyData.canLayAll0, PyData.depth, PyData.depthAll, PyData.eqv, PyData.eqvAll, h, k]
theorem o_size : PyData.strOk "size" = true := by decide +kernel
theorem o_large : PyData.strOk "large" = true := by decide +kernel
theorem o_place : PyData.strOk "place" = true := by decide +kernel
theorem places_small {n : Int} (h : n < 2) : F_places [.int n] = .exc "InvalidSize" [("n", .int n)] [] := by
  have hc := check_bad h
  unfold F_places runF b_places
  simp [env0, evCall, hc]
theorem kind_exc {n : Int} {w : D} {c : Str} {l : List (Str × D)} (h : F_check_places [.int n, .lst [w]] = .exc c l []) : F_kind [.int n, w] = .exc c l [] := by
  unfold F_kind runF b_kind
  simp [env0, evCall, h, sizeLine]
theorem piece_exc {n : Int} {w : D} {c : Str} {l : List (Str × D)} (h : F_check_places [.int n, .lst [w]] = .exc c l []) : F_piece [.int n, w] = .exc c l [] := by
  unfold F_piece runF b_piece
  simp [env0, evCall, h, sizeLine]
theorem no_size_ok {n : Int} (h : n < 2) (w : D) : F_l_law_no_size [.int n, w] = .ret (.bl true) [] := by
  have k := kind_exc (check_places_size h (.lst [w]))
  have p := piece_exc (check_places_size h (.lst [w]))
  have q := places_small h
  have e := eq_si o_size n
  unfold F_l_law_no_size runF b_l_law_no_size
  simp [env0, evCall, k, p, q, ref_size, e, sizeLine, -eqF_lst]
def nsB : CB := (CB.cons (CS.if_ (CT.not (CT.val (CE.call "_law_no_size" 2 [] F_l_law_no_size (CC.val (CE.var 5) (CC.val (CE.var 4) CC.nil)))))
    (CB.cons (CS.ret (CE.bl false))
    CB.nil)
    CB.nil)
    CB.nil)
theorem refusals_ok {s : D} (hs : Src s) {n far : Int} (hn : 2 ≤ n) (hf : 0 ≤ far) {p : Pl} (h : p.ok n) : ∃ s', Src s' ∧ F_l_law_refusals_hold [s, .int n, .int far, p.d] = .ret (.bl true) [s'] := by
  obtain ⟨f, x, y, z, s', ho, hs', e1, e2⟩ := none_ok hs hn h
  refine ⟨s', hs', ?_⟩
  have cp := check_places_bad hn e2
  have k := kind_exc cp
  have q := piece_exc cp
  have pl := places_large (n := 21 + far) (by omega)
  have l1 := eq_si o_large (21 + far)
  have l2 := eq_sw o_place ho x y z
  have n1 := no_size_ok (n := 1) (by omega) (.tup [.str f, .int x, .int y, .int z])
  have n2 := no_size_ok (n := 0) (by omega) (.tup [.str f, .int x, .int y, .int z])
  have n3 := no_size_ok (n := -far) (by omega) (.tup [.str f, .int x, .int y, .int z])
  unfold F_l_law_refusals_hold runF b_l_law_refusals_hold
  simp [env0, evCall, e1, e2, k, q, pl, ref_large, ref_place, l1, l2, n1, n2, n3, sizeLine, forE, -eqF_lst]
end C

set_option maxRecDepth 100000
set_option maxHeartbeats 4000000
namespace C
open PySem L2 PySem.W PyProof.Rows
/-! comparing lists of places -/
theorem dats_pl (l : List Pl) : datsOf (l.map Pl.d) = some (l.map Pl.py) := eachB Pl.d Pl.py dat_pl l
theorem lay_pl : ∀ l : List Pl, PyData.canLayAll0 (l.map Pl.py) = true
  | [] => rfl
  | p :: l => by
    have ih := lay_pl l
    simp [PyData.canLayAll0, Pl.py, PyData.canLay0, ih, fs_ok]
theorem dep_pl : ∀ l : List Pl, PyData.depthAll (l.map Pl.py) ≤ 3
  | [] => by simp [PyData.depthAll]
  | p :: l => by
    have ih := dep_pl l
    simp [PyData.depthAll, Pl.py, PyData.depth]
    omega
theorem eqv_pl : ∀ l : List Pl, PyData.eqvAll (l.map Pl.py) (l.map Pl.py) = true
  | [] => rfl
  | p :: l => by
    have ih := eqv_pl l
    simp [PyData.eqvAll, Pl.py, PyData.eqv, ih]
theorem eq_pls (l : List Pl) : eqF (.lst (l.map Pl.d)) (.lst (l.map Pl.d)) = some true := by
  have h1 := lay_pl l
  have h2 := dep_pl l
  have h3 : SeqAt.shaped (.list (l.map Pl.py)) = true := by
    simp [SeqAt.shaped, PyData.canLay0, PyData.depth, h1]
    omega
  rw [eqF_lst, dats_pl]
  simp only [Option.map_some, h3, Bool.and_self, if_true]
  simp [PyData.eqv, eqv_pl]
def phB : CB := (CB.cons (CS.if_ (CT.not (CT.val (CE.call "_law_place_holds" 2 [] F_l_law_place_holds (CC.val (CE.var 3) (CC.val (CE.var 6) CC.nil)))))
    (CB.cons (CS.ret (CE.bl false))
    CB.nil)
    CB.nil)
    CB.nil)
theorem ph_loop {n : Int} (hn : 2 ≤ n) (d0 d1 d2 d4 d5 d7 d8 d9 d10 d11 : Option D) : ∀ (l : List Pl) (v : Option D), (∀ p ∈ l, p.ok n) → ∃ v', forE (CG.name 6).asg phB.ev (l.map Pl.d) [d0, d1, d2, some (.int n), d4, d5, v, d7, d8, d9, d10, d11] = .nx [d0, d1, d2, some (.int n), d4, d5, v', d7, d8, d9, d10, d11]
  | [], v, _ => ⟨v, rfl⟩
  | p :: l, v, h => by
    obtain ⟨v', ih⟩ := ph_loop hn d0 d1 d2 d4 d5 d7 d8 d9 d10 d11 l (some p.d) fun x hx => h x (List.mem_cons_of_mem _ hx)
    refine ⟨v', ?_⟩
    have hp := place_holds hn (h p List.mem_cons_self)
    rw [List.map_cons]
    unfold forE
    simp only [asg_name, List.set]
    have : phB.ev [d0, d1, d2, some (.int n), d4, d5, some p.d, d7, d8, d9, d10, d11] = .nx [d0, d1, d2, some (.int n), d4, d5, some p.d, d7, d8, d9, d10, d11] := by
      unfold phB
      simp [evCall, hp]
    rw [this]
    exact ih
def tuB : CB := (CB.cons (CS.asg (CG.name 9) (CE.call "_law_draw" 2 [] F_l_law_draw (CC.ref 1 (CC.val (CE.int 6) CC.nil))))
    (CB.cons (CS.setLc 10 false ⟨[11], (CG.name 11), (CI.range1 (CE.int 3)), none, (CE.ix (CE.ofF (CF.lst (CA.cons (CE.int 0) (CA.cons (CE.int 1) (CA.cons (CE.bin oSub (CE.var 3) (CE.int 1)) (CA.cons (CE.bin oSub (CE.var 3) (CE.int 2)) (CA.cons (CE.bin oDiv (CE.var 3) (CE.int 2)) (CA.cons (CE.bin oDiv (CE.bin oSub (CE.var 3) (CE.int 1)) (CE.int 2)) (CA.cons (CE.bin oDiv (CE.var 2) (CE.int 3)) CA.nil))))))))) (CE.call "_law_draw" 2 [] F_l_law_draw (CC.ref 1 (CC.val (CE.int 7) CC.nil))))⟩)
    (CB.cons (CS.setIx 10 (CE.bin oDiv (CE.var 9) (CE.int 2)) (CE.ix (CE.ofF (CF.lst (CA.cons (CE.bin oSub (CE.var 3) (CE.int 1)) (CA.cons (CE.int 0) CA.nil)))) (CE.bin oMod (CE.var 9) (CE.int 2))))
    (CB.cons (CS.if_ (CT.not (CT.val (CE.call "_law_place_holds" 2 [] F_l_law_place_holds (CC.val (CE.var 3) (CC.val (CE.tup (CA.cons (CE.ix (CE.str "RLUDFB") (CE.var 9)) (CA.cons (CE.ix (CE.bvar 10) (CE.int 0)) (CA.cons (CE.ix (CE.bvar 10) (CE.int 1)) (CA.cons (CE.ix (CE.bvar 10) (CE.int 2)) CA.nil))))) CC.nil)))))
    (CB.cons (CS.ret (CE.bl false))
    CB.nil)
    CB.nil)
    CB.nil))))
theorem seven {far w : Int} (h0 : 0 ≤ far) (a : 0 ≤ w) (b : w < 7) : ∃ q, atI [D.int 0, .int 1, .int (7 + far - 1), .int (7 + far - 2), .int ((7 + far) / 2), .int ((7 + far - 1) / 2), .int (far / 3)] w = some (.int q) ∧ 0 ≤ q ∧ q < 7 + far := by
  rcases (by omega : w = 0 ∨ w = 1 ∨ w = 2 ∨ w = 3 ∨ w = 4 ∨ w = 5 ∨ w = 6) with rfl | rfl | rfl | rfl | rfl | rfl | rfl
  · exact ⟨_, rfl, by omega, by omega⟩
  · exact ⟨_, rfl, by omega, by omega⟩
  · exact ⟨_, rfl, by omega, by omega⟩
  · exact ⟨_, rfl, by omega, by omega⟩
  · exact ⟨_, rfl, by omega, by omega⟩
  · exact ⟨_, rfl, by omega, by omega⟩
  · exact ⟨_, rfl, by omega, by omega⟩
theorem tu_step {s : D} (hs : Src s) {far : Int} (h0 : 0 ≤ far) (d0 d4 d5 d6 d7 d8 d9 d10 : Option D) : ∃ s' w9 w10, Src s' ∧ tuB.ev [d0, some s, some (.int far), some (.int (7 + far)), d4, d5, d6, d7, d8, d9, d10, none] = .nx [d0, some s', some (.int far), some (.int (7 + far)), d4, d5, d6, d7, d8, w9, w10, none] := by
  obtain ⟨v, s1, a1, b1, h1, e1⟩ := draw_ok hs 6 (by omega) (by omega)
  obtain ⟨w1, s2, a2, b2, h2, e2⟩ := draw_ok h1 7 (by omega) (by omega)
  obtain ⟨w2, s3, a3, b3, h3, e3⟩ := draw_ok h2 7 (by omega) (by omega)
  obtain ⟨w3, s4, a4, b4, h4, e4⟩ := draw_ok h3 7 (by omega) (by omega)
  obtain ⟨q1, i1, l1, u1⟩ := seven h0 a2 b2
  obtain ⟨q2, i2, l2, u2⟩ := seven h0 a3 b3
  obtain ⟨q3, i3, l3, u3⟩ := seven h0 a4 b4
  have d2 : divB 2 = true := by decide
  have d3 : divB 3 = true := by decide
  have hr : rangeD 0 3 = [.int 0, .int 1, .int 2] := by kernel_rfl
  have hq : rgB 3 = true := by decide
  have sd := side_n a1 b1
  have key : ∀ p : Pl, p.ok (7 + far) → F_l_law_place_holds [.int (7 + far), .tup [.str (fs p.f), .int p.x, .int p.y, .int p.z]] = .ret (.bl true) [] := fun p hp => place_holds (by omega) hp
  refine ⟨s4, some (.int v), ?_⟩
  unfold tuB
  rcases (by omega : v = 0 ∨ v = 1 ∨ v = 2 ∨ v = 3 ∨ v = 4 ∨ v = 5) with rfl | rfl | rfl | rfl | rfl | rfl
  · have k := key ⟨.R, 7 + far - 1, q2, q3⟩ ⟨(show 0 ≤ (7 + far - 1 : Int) ∧ (7 + far - 1 : Int) < 7 + far by omega), ⟨l2, u2⟩, ⟨l3, u3⟩, (show 7 + far - (7 + far - 1) = 1 by omega)⟩
    refine ⟨some (.lst [.int (7 + far - 1), .int q2, .int q3]), h4, ?_⟩
    simp [Lc.ev, evLc, lcE, wipeE, backE, tsE, evR1, hq, hr, evCall, e1, e2, e3, e4, i1, i2, i3, d2, d3, sizeLine, evSet, storeD, ixN, sd, nFc, k]
  · have k := key ⟨.L, 0, q2, q3⟩ ⟨(show 0 ≤ (0 : Int) ∧ (0 : Int) < 7 + far by omega), ⟨l2, u2⟩, ⟨l3, u3⟩, (show (0 : Int) + 1 = 1 by omega)⟩
    refine ⟨some (.lst [.int 0, .int q2, .int q3]), h4, ?_⟩
    simp [Lc.ev, evLc, lcE, wipeE, backE, tsE, evR1, hq, hr, evCall, e1, e2, e3, e4, i1, i2, i3, d2, d3, sizeLine, evSet, storeD, ixN, sd, nFc, k]
  · have k := key ⟨.U, q1, 7 + far - 1, q3⟩ ⟨⟨l1, u1⟩, (show 0 ≤ (7 + far - 1 : Int) ∧ (7 + far - 1 : Int) < 7 + far by omega), ⟨l3, u3⟩, (show 7 + far - (7 + far - 1) = 1 by omega)⟩
    refine ⟨some (.lst [.int q1, .int (7 + far - 1), .int q3]), h4, ?_⟩
    simp [Lc.ev, evLc, lcE, wipeE, backE, tsE, evR1, hq, hr, evCall, e1, e2, e3, e4, i1, i2, i3, d2, d3, sizeLine, evSet, storeD, ixN, sd, nFc, k]
  · have k := key ⟨.D, q1, 0, q3⟩ ⟨⟨l1, u1⟩, (show 0 ≤ (0 : Int) ∧ (0 : Int) < 7 + far by omega), ⟨l3, u3⟩, (show (0 : Int) + 1 = 1 by omega)⟩
    refine ⟨some (.lst [.int q1, .int 0, .int q3]), h4, ?_⟩
    simp [Lc.ev, evLc, lcE, wipeE, backE, tsE, evR1, hq, hr, evCall, e1, e2, e3, e4, i1, i2, i3, d2, d3, sizeLine, evSet, storeD, ixN, sd, nFc, k]
  · have k := key ⟨.F, q1, q2, 7 + far - 1⟩ ⟨⟨l1, u1⟩, ⟨l2, u2⟩, (show 0 ≤ (7 + far - 1 : Int) ∧ (7 + far - 1 : Int) < 7 + far by omega), (show 7 + far - (7 + far - 1) = 1 by omega)⟩
    refine ⟨some (.lst [.int q1, .int q2, .int (7 + far - 1)]), h4, ?_⟩
    simp [Lc.ev, evLc, lcE, wipeE, backE, tsE, evR1, hq, hr, evCall, e1, e2, e3, e4, i1, i2, i3, d2, d3, sizeLine, evSet, storeD, ixN, sd, nFc, k]
  · have k := key ⟨.B, q1, q2, 0⟩ ⟨⟨l1, u1⟩, ⟨l2, u2⟩, (show 0 ≤ (0 : Int) ∧ (0 : Int) < 7 + far by omega), (show (0 : Int) + 1 = 1 by omega)⟩
    refine ⟨some (.lst [.int q1, .int q2, .int 0]), h4, ?_⟩
    simp [Lc.ev, evLc, lcE, wipeE, backE, tsE, evR1, hq, hr, evCall, e1, e2, e3, e4, i1, i2, i3, d2, d3, sizeLine, evSet, storeD, ixN, sd, nFc, k]
end C

set_option maxRecDepth 100000
set_option maxHeartbeats 4000000
namespace C
open PySem L2 PySem.W PyProof.Rows
theorem len_pls {n : Int} (hn : 2 ≤ n) : (((placesL n).length : Nat) : Int) = 6 * n * n := by
  rw [places_len hn]
  have e : ((n.toNat : Nat) : Int) = n := by omega
  rw [show (((6 * (n.toNat * n.toNat) : Nat)) : Int) = 6 * ((n.toNat : Int) * (n.toNat : Int)) from by simp, e, Int.mul_assoc]
abbrev qE (ns : List Int) (far : Int) (d4 d5 : Option D) (s : D) (w6 w7 w8 w9 w10 : Option D) : Env := [some (.scr ns), some s, some (.int far), some (.int (7 + far)), d4, d5, w6, w7, w8, w9, w10, none]
theorem tail_ok {ns : List Int} {far : Int} (h0 : 0 ≤ far) (d4 d5 w6 w7 : Option D) {s : D} (hs : Src s) : ∃ s' w8 w9 w10, Src s' ∧ forE (CG.name 8).asg tuB.ev (rangeD 0 8) (qE ns far d4 d5 s w6 w7 none none none) = .nx (qE ns far d4 d5 s' w6 w7 w8 w9 w10) := by
  obtain ⟨en, l1, s', w8, w9, w10, hs', rfl⟩ := forE_inv (g := (CG.name 8).asg) (b := tuB.ev) (fun en => ∃ s w8 w9 w10, Src s ∧ en = qE ns far d4 d5 s w6 w7 w8 w9 w10) (rangeD 0 8) (qE ns far d4 d5 s w6 w7 none none none) ⟨s, none, none, none, hs, rfl⟩ (fun x hx en he => by
    obtain ⟨s, w8, w9, w10, hs, rfl⟩ := he
    obtain ⟨s', u9, u10, hs', h⟩ := tu_step hs h0 (some (.scr ns)) d4 d5 w6 w7 (some x) w9 w10
    exact ⟨_, _, rfl, .inl h, s', some x, u9, u10, hs', rfl⟩)
  exact ⟨s', w8, w9, w10, hs', l1⟩
theorem clr (l : List D) : mClear.f (.lst l) [] = some (.non, .lst []) := rfl
theorem pure_law (ns : List Int) : F_law [.scr ns] = .ret (.bl true) [] := by
  have k0 : F_l_law_cell [.scr ns, .int 0] = .ret (.int (ns.getD 0 0)) [] := cell_eq ns 0
  have k1 : F_l_law_cell [.scr ns, .int 1] = .ret (.int (ns.getD 1 0)) [] := cell_eq ns 1
  obtain ⟨s0, hs0, e0⟩ := source_ok (ns.getD 0 0)
  generalize ns.getD 0 0 = x0 at k0 e0
  generalize ns.getD 1 0 = x1 at k1
  have g0 : 0 ≤ x1 % 1000000000000000000000000000000 := by omega
  generalize hfar : x1 % 1000000000000000000000000000000 = far at g0
  obtain ⟨v, s1, a1, b1, hs1, e1⟩ := draw_ok hs0 5 (by omega) (by omega)
  obtain ⟨w, s2, a2, b2, hs2, e2⟩ := draw_ok hs1 8 (by omega) (by omega)
  obtain ⟨u, s3, a3, b3, hs3, e3⟩ := draw_ok hs2 14 (by omega) (by omega)
  generalize hn : 2 + v = n
  have lp := law_places_eq (n := n) (by omega) (by omega)
  have pp := places_eq (n := n) (by omega) (by omega)
  have lp2 := law_places_eq (n := 7 + u) (by omega) (by omega)
  have pp2 := places_eq (n := 7 + u) (by omega) (by omega)
  have pp3 := places_eq (n := 20) (by omega) (by omega)
  have ln := len_pls (n := n) (by omega)
  have ln3 := len_pls (n := 20) (by omega)
  have q1 := eq_pls (placesL n)
  have q2 := eq_pls (placesL (7 + u))
  have m1 : mulB 6 n = true := mulB_l (by omega) (by omega)
  have m2 : mulB (6 * n) n = true := mulB_r (by omega) (by omega)
  have hp : powB 10 30 = true := by decide
  have hq : rgB 8 = true := by decide
  have d3 : divB 3 = true := by decide
  obtain ⟨v6, L⟩ := ph_loop (n := n) (by omega) (some (.scr ns)) (some s1) (some (.int far)) (some (.lst ((placesL n).map Pl.d))) (some (.lst [])) none none none none none (placesL n) none (fun p hp => mem_places.mp hp)
  have ok : (⟨.U, far / 3, 7 + far - 1, 1⟩ : Pl).ok (7 + far) := ⟨(show 0 ≤ far / 3 ∧ far / 3 < 7 + far by omega), (show 0 ≤ 7 + far - 1 ∧ 7 + far - 1 < 7 + far by omega), (show (0 : Int) ≤ 1 ∧ 1 < 7 + far by omega), (show 7 + far - (7 + far - 1) = 1 by omega)⟩
  have fsU : fs .U = ("U" : Str) := rfl
  unfold phB at L
  by_cases c : w = 0
  · subst c
    obtain ⟨s4, w8, w9, w10, hs4, T⟩ := tail_ok (ns := ns) g0 (some (.lst ((placesL n).map Pl.d))) (some (.lst [])) v6 (some (.int (7 + u))) hs3
    obtain ⟨s5, hs5, r⟩ := refusals_ok hs4 (n := 7 + far) (by omega) g0 ok
    unfold Pl.d at r
    simp only [fsU] at r
    unfold qE tuB at T
    unfold F_law runF b_law
    simp -implicitDefEqProofs [env0, evCall, k0, k1, e0, e1, hp, hfar, hn, lp, pp, q1, ln, m1, m2, clr, -eqF_lst, -eqF_tup]
    rw [L]
    simp -implicitDefEqProofs [evCall, e2, e3, lp2, pp2, q2, pp3, ln3, evR1, hq, -eqF_lst, -eqF_tup]
    rw [T]
    simp -implicitDefEqProofs [evCall, d3, sizeLine, r]
  · obtain ⟨s4, w8, w9, w10, hs4, T⟩ := tail_ok (ns := ns) g0 (some (.lst ((placesL n).map Pl.d))) (some (.lst [])) v6 none hs2
    obtain ⟨s5, hs5, r⟩ := refusals_ok hs4 (n := 7 + far) (by omega) g0 ok
    unfold Pl.d at r
    simp only [fsU] at r
    unfold qE tuB at T
    unfold F_law runF b_law
    simp -implicitDefEqProofs [env0, evCall, k0, k1, e0, e1, hp, hfar, hn, lp, pp, q1, ln, m1, m2, clr, -eqF_lst, -eqF_tup]
    rw [L]
    simp -implicitDefEqProofs [evCall, e2, c, evR1, hq, -eqF_lst, -eqF_tup]
    rw [T]
    simp -implicitDefEqProofs [evCall, d3, sizeLine, r]
end C

set_option maxRecDepth 100000
set_option maxHeartbeats 0
namespace C
open PySem L2
abbrev RR : PySem.W.OpenRow := PySem.W.OpenLaw.row PySem.Challenge.rw_everycube_k32_pieces_and_kinds
def exx (K : Fg) : Bool := fq.all fun q => q.ok PP K
abbrev hk : PySem.W.Hook := hookC 7 fa ts tf exx gn
def ob (s : PySem.W.SharedT) : AlC := obsC 7 fa ts tf exx gn (HandSHeadRun.getT s)
theorem ob_eq (s : PySem.W.SharedT) : ob s = hk.obs s.abs := obsC_eq (HandSHeadRun.getT_eq s)
def loose : List Str := [("CubeError" : Str), ("InvalidSize" : Str), ("InvalidPlace" : Str), ("TooLarge" : Str), ("FACES" : Str), ("check_size" : Str), ("depth" : Str), ("MOST_LISTED" : Str), ("CORNER" : Str), ("EDGE" : Str), ("WING" : Str), ("CENTRE" : Str), ("MIDDLE_CENTRE" : Str), ("is_place" : Str), ("check_places" : Str), ("faces_of" : Str), ("places" : Str), ("piece" : Str), ("lesser_depth" : Str), ("kind" : Str), ("_law_cell" : Str), ("_law_source" : Str), ("_law_draw" : Str), ("_law_vector" : Str), ("_law_place" : Str), ("_law_led" : Str), ("_law_goal" : Str), ("_law_places" : Str), ("_law_cells_faces" : Str), ("_law_normal" : Str), ("_law_clockwise" : Str), ("_law_kind" : Str), ("_law_place_holds" : Str), ("_law_refused" : Str), ("_law_none" : Str), ("_law_no_size" : Str), ("_law_refusals_hold" : Str)]
theorem run_f (w : World) : HandSHeadRun.RunEq RR (PySem.W.view RR.prog [41]) hk ob 40000 loose (w.withFollow "special-get-raises" false) := by
  intro os
  kernel_rfl
theorem run_t (w : World) : HandSHeadRun.RunEq RR (PySem.W.view RR.prog [41]) hk ob 40000 loose (w.withFollow "special-get-raises" true) := by
  intro os
  kernel_rfl
theorem run (w : World) : HandSHeadRun.RunEq RR (PySem.W.view RR.prog [41]) hk ob 40000 loose w :=
  PySem.W.byRow2 "special-get-raises" (P := fun w => HandSHeadRun.RunEq RR (PySem.W.view RR.prog [41]) hk ob 40000 loose w) run_f run_t w
end C

set_option maxRecDepth 100000
set_option maxHeartbeats 0
open PySem PySem.W PySem.Calls PyProof.Rows
theorem C.law_holds (hF : ∀ ns : List Int, ns.length ≤ 63 → (∀ z ∈ ns, Builtin.Int.intBits z ≤ 1048576) → C.F_law [.scr ns] = .ret (.bl true) []) : PySem.Challenge.rw_everycube_k32_pieces_and_kinds.Holds := by
  w_on; o_law
  refine HandSHeadRun.head_any (r := C.RR) (q := view C.RR.prog [41]) (H := C.hk) (ob := C.ob) (M := 40000) (loose := C.loose) (d := HandSHeadRun.topDef C.RR.prog 41) (kwd := []) C.ob_eq
    (by kernel_rfl) (fun s => by kernel_rfl) C.run (by kernel_rfl) (by kernel_rfl) (by kernel_rfl) (by rfl) (by first | assumption | decide +kernel) (by decide +kernel) ⟨rfl, rfl, rfl, rfl, rfl, by decide +kernel⟩ ?hw ?hc
  case hw => w_witness2
  case hc =>
    refine LamX.walk_ofTsE (l := PySem.Challenge.rw_everycube_k32_pieces_and_kinds) (n := 63) (k := 11) (x := "_law_script") (CX := fun w => L2.CX C.PP w) rfl (by decide) (by kernel_rfl) ⟨rfl, by decide, by decide⟩ ?F ?hX
    case hX =>
      intro w H s e s' z
      obtain ⟨_, _, _, _, _, _, _, _, _, _, _, _, z⟩ := z
      exact z.elim
    case F =>
      intro w mg fa h Y G hmg0
      obtain ⟨K, KX, c⟩ := Y
      have hmg : mg ("law" : PySem.Str) = some (.ref fa) := by
        have e : (HandSHeadRun.topDef C.RR.prog 41).name = ("law" : PySem.Str) := by kernel_rfl
        rw [← e]
        exact hmg0
      have hg := He.glo_ok KX G (c.c.t.d.fact 40 (f := .glo "law") rfl)
      have ef : fa = C.ga K "law" := by
        have := hmg.symm.trans hg
        cases this
        rfl
      exact ⟨K, KX, C.law_end (l := PySem.Challenge.rw_everycube_k32_pieces_and_kinds) (fq := C.fq) (gn := C.gn) (d := C.d_law) (F := C.F_law) KX G c rfl ef rfl (fun _ _ _ _ _ _ us hl => match us, hl with | [_], _ => rfl) 22 rfl (fun base z => C.ok_law z) hF⟩

theorem PySem.Challenge.cw_everycube_k32_pieces_and_kinds_holds : PySem.Challenge.rw_everycube_k32_pieces_and_kinds.Holds := by
  exact C.law_holds fun ns h1 h2 => C.pure_law ns
