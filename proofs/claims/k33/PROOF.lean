import PyProof.Rows.All
import Wide.All
import OpenK.AllK
import Wide.FinOn
import HandS.ForMost
import HandS.Exc
import HandS.TryOnly
import HandS.TryMany
import HandS.ExcOwn
import HandS.ExcInit
import HandS.ExcField
import HandS.CallSlots
import HandS.Lambda
import HandS.Defaults
import HandS.TupAny
import HandS.TupMul
import HandS.Wide
import HandS.Conv
import HandS.IsInst
import HandS.Flow
import HandS.Style
import HandS.WordsExc
import HandS.ClsMeth
import HandS.EndTab
import HandS.WideMore
import HandS.MakeKw
import HandS.SlotsOwn
import HandS.Text
import HandS.FStr
import KE.KCallOwn
import KE.GoesEnum
import KE.GoesZip
import HandS.TupLen
import HandS.SetKeys
import HandS.OwnEq
import HandS.Deep
import HandS.SetFor
import HandS.Zip
import PyProof.DictMoreH
import PySem.Challenge.RW_elderow_k33_least_tables_of_words
set_option Elab.async false
set_option linter.all false
set_option maxRecDepth 100000
set_option maxHeartbeats 2000000
/-! PD1: plain data D, how the abstract heap bears it (Rep), the state relation Rel, the lifts of plain transformers. -/
namespace PD
open PySem PySem.Spec L2
/-- plain data -/
inductive D where
  | non | bl (b : Bool) | int (i : Int) | str (s : Str)
  | tup (l : List D) | lst (l : List D)
  | dic (ks : List Key) (vs : List D)
  | dct (ks : List (List Key)) (vs : List D)
  | ins (c : Str) (ns : List Str) (vs : List D)
  | hnd (a : Addr)
  | scr (ns : List Int)
  | exc (a dx : Addr) (cn : Str) (ns : List Str) (vs : List D)
  deriving Inhabited
/-- what a law's text gives once for all -/
structure Cfg where
  P : Program
  w : World
  K : PySem.W.Frag
  mg : Str → Option Value
  T : List (Addr × Str)
mutual
/-- v is the datum d, by the part F of the heap -/
inductive Rep (c : Cfg) (F : Hp) : V → D → Prop
  | non : Rep c F .non .non
  | bl (b : Bool) : Rep c F (.bl b) (.bl b)
  | int (i : Int) : Rep c F (.int i) (.int i)
  | str (s : Str) : Rep c F (.str s) (.str s)
  | tup {a : Addr} {xs : List V} {l : List D} : F a = some (.tup xs) → Reps c F xs l → Rep c F (.ref a) (.tup l)
  | lst {a : Addr} {xs : List V} {l : List D} : F a = some (.lst xs) → Reps c F xs l → Rep c F (.ref a) (.lst l)
  | dic {a : Addr} {kvs : List (Key × V)} {vs : List D} : F a = some (.dK kvs) → Reps c F (kvs.map (·.2)) vs → Rep c F (.ref a) (.dic (kvs.map (·.1)) vs)
  | dct {a : Addr} {kvs : List (List Key × V)} {vs : List D} : F a = some (.dT kvs) → Reps c F (kvs.map (·.2)) vs → Rep c F (.ref a) (.dct (kvs.map (·.1)) vs)
  | ins {a dx C : Addr} {cn : Str} {fs : List (Str × V)} {vs : List D} : c.mg cn = some (.ref C) → F a = some (.ins C dx fs) → F dx = some (.own a) → Reps c F (fs.map (·.2)) vs → Rep c F (.ref a) (.ins cn (fs.map (·.1)) vs)
  | hnd (a : Addr) : Rep c F (.ref a) (.hnd a)
  | scr {a : Addr} {ns : List Int} : SqL c.K F a (ns.map V.int) → ns.length ≤ 63 → Rep c F (.ref a) (.scr ns)
  | exc {a dx C : Addr} {cn : Str} {fs : List (Str × V)} {vs : List D} : c.mg cn = some (.ref C) → F dx = some (.xd fs) → Reps c F (fs.map (·.2)) vs → Rep c F (.ref a) (.exc a dx cn (fs.map (·.1)) vs)
inductive Reps (c : Cfg) (F : Hp) : List V → List D → Prop
  | nil : Reps c F [] []
  | cons {v : V} {vs : List V} {d : D} {ds : List D} : Rep c F v d → Reps c F vs ds → Reps c F (v :: vs) (d :: ds)
end
section
variable {c : Cfg} {F F' : Hp}
theorem sqt_same {K : PySem.W.Frag} {a : Addr} {xs : List V} (e : Same F F') (h : SqT K F a xs) : SqT K F' a xs := by
  rcases h with (h | ⟨o, h⟩) | h
  · exact .inl (.inl (e _ _ h))
  · exact .inl (.inr ⟨o, e _ _ h⟩)
  · exact .inr h
mutual
theorem Rep.mono (e : Same F F') : ∀ (d : D) (v : V), Rep c F v d → Rep c F' v d
  | .non, _, h => by cases h; exact .non
  | .bl _, _, h => by cases h; exact .bl _
  | .int _, _, h => by cases h; exact .int _
  | .str _, _, h => by cases h; exact .str _
  | .tup l, _, h => by
    cases h with
    | tup s r => exact .tup (e _ _ s) (Reps.mono e l _ r)
  | .lst l, _, h => by
    cases h with
    | lst s r => exact .lst (e _ _ s) (Reps.mono e l _ r)
  | .dic ks vs, _, h => by
    cases h with
    | dic s r => exact .dic (e _ _ s) (Reps.mono e vs _ r)
  | .dct ks vs, _, h => by
    cases h with
    | dct s r => exact .dct (e _ _ s) (Reps.mono e vs _ r)
  | .ins cn ns vs, _, h => by
    cases h with
    | ins m s o r => exact .ins m (e _ _ s) (e _ _ o) (Reps.mono e vs _ r)
  | .hnd _, _, h => by cases h; exact .hnd _
  | .scr _, _, h => by
    cases h with
    | scr s z => exact .scr (e.seq s) z
  | .exc _ _ _ _ vs, _, h => by
    cases h with
    | exc m s r => exact .exc m (e _ _ s) (Reps.mono e vs _ r)
theorem Reps.mono (e : Same F F') : ∀ (ds : List D) (vs : List V), Reps c F vs ds → Reps c F' vs ds
  | [], _, h => by cases h; exact .nil
  | d :: ds, _, h => by
    cases h with
    | cons a b => exact .cons (Rep.mono e d _ a) (Reps.mono e ds _ b)
end
theorem Reps.len : ∀ {ds : List D} {vs : List V}, Reps c F vs ds → vs.length = ds.length
  | [], _, .nil => rfl
  | _ :: _, _, .cons _ t => congrArg (· + 1) (Reps.len t)
theorem Reps.get : ∀ {ds : List D} {vs : List V} {i : Nat} {d : D}, Reps c F vs ds → ds[i]? = some d → ∃ v, vs[i]? = some v ∧ Rep c F v d
  | [], _, _, _, .nil, h => by simp at h
  | _ :: _, _, 0, _, .cons a _, h => by
    simp at h
    subst h
    exact ⟨_, rfl, a⟩
  | _ :: _, _, i + 1, _, .cons _ t, h => by
    obtain ⟨v, h1, h2⟩ := Reps.get (i := i) t (by simpa using h)
    exact ⟨v, by simpa using h1, h2⟩
theorem Reps.app : ∀ {ds es : List D} {vs us : List V}, Reps c F vs ds → Reps c F us es → Reps c F (vs ++ us) (ds ++ es)
  | _, _, _, _, .nil, h => h
  | _, _, _, _, .cons a t, h => .cons a (Reps.app t h)
theorem Reps.one {v : V} {d : D} (h : Rep c F v d) : Reps c F [v] [d] := .cons h .nil
theorem Reps.take : ∀ (n : Nat) {ds : List D} {vs : List V}, Reps c F vs ds → Reps c F (vs.take n) (ds.take n)
  | 0, _, _, _ => by simp; exact .nil
  | _ + 1, _, _, .nil => .nil
  | n + 1, _, _, .cons a t => .cons a (Reps.take n t)
theorem Reps.drop : ∀ (n : Nat) {ds : List D} {vs : List V}, Reps c F vs ds → Reps c F (vs.drop n) (ds.drop n)
  | 0, _, _, h => h
  | _ + 1, _, _, .nil => .nil
  | n + 1, _, _, .cons _ t => Reps.drop n t
theorem Reps.set : ∀ (n : Nat) {ds : List D} {vs : List V} {v : V} {d : D}, Reps c F vs ds → Rep c F v d → Reps c F (vs.set n v) (ds.set n d)
  | _, _, _, _, _, .nil, _ => .nil
  | 0, _, _, _, _, .cons _ t, h => .cons h t
  | n + 1, _, _, _, _, .cons a t, h => .cons a (Reps.set n t h)
theorem Reps.rev : ∀ {ds : List D} {vs : List V}, Reps c F vs ds → Reps c F vs.reverse ds.reverse
  | _, _, .nil => .nil
  | _, _, .cons a t => by
    rw [List.reverse_cons, List.reverse_cons]
    exact (Reps.rev t).app (.one a)
theorem Reps.ints : ∀ (ns : List Int), Reps c F (ns.map V.int) (ns.map D.int)
  | [] => .nil
  | _ :: ns => .cons (.int _) (Reps.ints ns)
end
/-- a container that one slot alone holds -/
inductive Cont where
  | lst (l : List D)
  | dic (ks : List Key) (vs : List D)
  | dct (ks : List (List Key)) (vs : List D)
def Cont.d : Cont → D
  | .lst l => .lst l
  | .dic ks vs => .dic ks vs
  | .dct ks vs => .dct ks vs
/-- what a slot holds -/
inductive SV where
  | val (d : D)
  | own (k : Cont)
abbrev Ev := List (Option SV)
/-- a thing that changes and is held by many -/
inductive MO where
  | jar
  | box (l : List D)
  | dbox (ks : List Key) (vs : List D)
  | obj (cn : Str) (dx : Addr) (fs : List (Str × D))
abbrev Mu := Addr → Option MO
/-- what an expression yields -/
inductive R where
  | fz (d : D)
  | fresh (k : Cont)
  | bor (i : Nat) (k : Cont)
def R.d : R → D
  | .fz d => d
  | .fresh k => k.d
  | .bor _ k => k.d
/-- an exception: its class's name, its fields -/
structure Exc where
  cn : Str
  fs : List (Str × D)
def ContAt (c : Cfg) (F H : Hp) (a : Addr) : Cont → Prop
  | .lst l => ∃ xs, H a = some (.lst xs) ∧ Reps c F xs l
  | .dic ks vs => ∃ kvs, H a = some (.dK kvs) ∧ kvs.map (·.1) = ks ∧ Reps c F (kvs.map (·.2)) vs
  | .dct ks vs => ∃ kvs, H a = some (.dT kvs) ∧ kvs.map (·.1) = ks ∧ Reps c F (kvs.map (·.2)) vs
def MoAt (c : Cfg) (F H : Hp) (a : Addr) : MO → Prop
  | .jar => ∃ (l : Addr) (ns : List Int) (i cr sd n : Int), H a = some (.lst [.ref l, .int i, .int cr, .int sd, .int n]) ∧ F l = some (.lst (ns.map V.int)) ∧ ns.length ≤ 63 ∧ 0 ≤ i ∧ 0 ≤ cr ∧ 0 ≤ sd ∧ sd < 2147483629 ∧ 0 ≤ n
  | .box l => ∃ xs, H a = some (.lst xs) ∧ Reps c F xs l
  | .dbox ks vs => ∃ kvs, H a = some (.dK kvs) ∧ kvs.map (·.1) = ks ∧ Reps c F (kvs.map (·.2)) vs
  | .obj cn dx fs => ∃ (C : Addr) (vs : List (Str × V)), c.mg cn = some (.ref C) ∧ H a = some (.ins C dx vs) ∧ vs.map (·.1) = fs.map (·.1) ∧ Reps c F (vs.map (·.2)) (fs.map (·.2))
/-- what stays the same through a def's run: all that was at its entry (B), the part of it that its arguments may lean on (F0) -/
structure Fm where
  c : Cfg
  B : Hp
  F0 : Hp
def SvOk (f : Fm) (μ : Mu) (F : Hp) (H : Hp) (x : Option (Option V)) (i : Nat) : SV → Prop
  | .val d => ∃ v, x = some (some v) ∧ Rep f.c F v d
  | .own k => ∃ a, x = some (some (.ref a)) ∧ F a = none ∧ f.B a = none ∧ μ a = none ∧ ContAt f.c F H a k
/-- the frame's share of it -/
structure Fit (f : Fm) (μ : Mu) (F H : Hp) : Prop where
  bh : ∀ b o, f.B b = some o → H b = some o
  bn : ∀ b ps, f.B b ≠ some (.tbl ps)
  f0 : Same f.F0 F
  fh : Same F H
  fb : ∀ b o, F b = some o → f.F0 b = some o ∨ f.B b = none
  ft : ∀ b ps, F b ≠ some (.tbl ps)
  mu : ∀ a m, μ a = some m → F a = none ∧ f.B a = none ∧ MoAt f.c F H a m
  tb : LamX.Tabs f.c.T H
theorem Fit.bt {f : Fm} {μ : Mu} {F H : Hp} (r : Fit f μ F H) (b : Addr) (h : H b = none) : f.B b = none := by
  cases e : f.B b with
  | none => rfl
  | some o =>
    rw [r.bh b o e] at h
    cases h
structure Rel (f : Fm) (env : Ev) (μ : Mu) (σ : L2.St) (F : Hp) (H : Hp) : Prop extends Fit f μ F H where
  len : env.length = σ.length
  dj : ∀ (i j : Nat) (k k' : Cont) (a : Addr), env[i]? = some (some (.own k)) → env[j]? = some (some (.own k')) → σ[i]? = some (some (.ref a)) → σ[j]? = some (some (.ref a)) → i = j
  sl : ∀ (i : Nat) (sv : SV), env[i]? = some (some sv) → SvOk f μ F H σ[i]? i sv
/-- what is yielded, as it stands -/
def RR (f : Fm) (env : Ev) (μ : Mu) (σ : L2.St) (F H : Hp) (v : V) : R → Prop
  | .fz d => Rep f.c F v d
  | .fresh k => ∃ a, v = .ref a ∧ F a = none ∧ f.B a = none ∧ μ a = none ∧ (∀ (i : Nat) (k' : Cont), env[i]? = some (some (.own k')) → σ[i]? ≠ some (some (.ref a))) ∧ ContAt f.c F H a k
  | .bor i k => env[i]? = some (some (.own k)) ∧ σ[i]? = some (some v)
/-- .. with what is fresh laid still -/
def RZ (f : Fm) (env : Ev) (σ : L2.St) (F : Hp) (v : V) : R → Prop
  | .bor i k => env[i]? = some (some (.own k)) ∧ σ[i]? = some (some v)
  | r => Rep f.c F v r.d
/-! ### how containers and objects stay -/
section
variable {f : Fm} {env : Ev} {μ : Mu} {σ : L2.St} {F F' H H' : Hp} {a p : Addr} {k : Cont} {m : MO} {o : HO}
theorem ContAt.stay (h : ContAt f.c F H a k) (e : Same F F') (z : ∀ o, H a = some o → H' a = some o) : ContAt f.c F' H' a k := by
  cases k with
  | lst l =>
    obtain ⟨xs, h1, h2⟩ := h
    exact ⟨xs, z _ h1, Reps.mono e _ _ h2⟩
  | dic ks vs =>
    obtain ⟨kvs, h1, h2, h3⟩ := h
    exact ⟨kvs, z _ h1, h2, Reps.mono e _ _ h3⟩
  | dct ks vs =>
    obtain ⟨kvs, h1, h2, h3⟩ := h
    exact ⟨kvs, z _ h1, h2, Reps.mono e _ _ h3⟩
theorem ContAt.there (h : ContAt f.c F H a k) : ∃ o, H a = some o ∧ (∀ ps, o ≠ .tbl ps) := by
  cases k with
  | lst l =>
    obtain ⟨xs, h1, h2⟩ := h
    exact ⟨_, h1, fun ps z => by cases z⟩
  | dic ks vs =>
    obtain ⟨kvs, h1, h2, h3⟩ := h
    exact ⟨_, h1, fun ps z => by cases z⟩
  | dct ks vs =>
    obtain ⟨kvs, h1, h2, h3⟩ := h
    exact ⟨_, h1, fun ps z => by cases z⟩
theorem MoAt.stay (h : MoAt f.c F H a m) (e : Same F F') (z : ∀ o, H a = some o → H' a = some o) : MoAt f.c F' H' a m := by
  cases m with
  | jar =>
    obtain ⟨l, ns, i, cr, sd, n, h1, h2, h3⟩ := h
    exact ⟨l, ns, i, cr, sd, n, z _ h1, e _ _ h2, h3⟩
  | box l =>
    obtain ⟨xs, h1, h2⟩ := h
    exact ⟨xs, z _ h1, Reps.mono e _ _ h2⟩
  | dbox ks vs =>
    obtain ⟨kvs, h1, h2, h3⟩ := h
    exact ⟨kvs, z _ h1, h2, Reps.mono e _ _ h3⟩
  | obj cn dx fs =>
    obtain ⟨C, vs, h1, h2, h3, h4⟩ := h
    exact ⟨C, vs, h1, z _ h2, h3, Reps.mono e _ _ h4⟩
theorem MoAt.there (h : MoAt f.c F H a m) : ∃ o, H a = some o ∧ (∀ ps, o ≠ .tbl ps) := by
  cases m with
  | jar =>
    obtain ⟨l, ns, i, cr, sd, n, h1, h2, h3⟩ := h
    exact ⟨_, h1, fun ps z => by cases z⟩
  | box l =>
    obtain ⟨xs, h1, h2⟩ := h
    exact ⟨_, h1, fun ps z => by cases z⟩
  | dbox ks vs =>
    obtain ⟨kvs, h1, h2, h3⟩ := h
    exact ⟨_, h1, fun ps z => by cases z⟩
  | obj cn dx fs =>
    obtain ⟨C, vs, h1, h2, h3, h4⟩ := h
    exact ⟨_, h2, fun ps z => by cases z⟩
theorem SvOk.stay {x : Option (Option V)} {i : Nat} {sv : SV} (h : SvOk f μ F H x i sv) (e : Same F F') (z : ∀ a o, x = some (some (.ref a)) → F a = none → f.B a = none → μ a = none → H a = some o → H' a = some o ∧ F' a = none) : SvOk f μ F' H' x i sv := by
  cases sv with
  | val d =>
    obtain ⟨v, h1, h2⟩ := h
    exact ⟨v, h1, Rep.mono e _ _ h2⟩
  | own k =>
    obtain ⟨a, h1, h3, h4, h5, h6⟩ := h
    obtain ⟨o, ho, _⟩ := h6.there
    exact ⟨a, h1, (z a o h1 h3 h4 h5 ho).2, h4, h5, h6.stay e fun o' q => (z a o' h1 h3 h4 h5 q).1⟩
/-- a new object is laid, and it is no one's -/
theorem Fit.laid (r : Fit f μ F H) (hp : H p = none) (nt : ∀ ps, o ≠ .tbl ps) : Fit f μ F (upd H p o) where
  bh := fun b u hb => by
    have h := r.bh b u hb
    rw [upd_ne (ne_of_none h hp)]
    exact h
  bn := r.bn
  f0 := r.f0
  fh := fun b u h => by
    have h' := r.fh b u h
    rw [upd_ne (ne_of_none h' hp)]
    exact h'
  fb := r.fb
  ft := r.ft
  mu := fun a m h => by
    obtain ⟨h1, h2, h3⟩ := r.mu a m h
    exact ⟨h1, h2, h3.stay (Same.refl _) fun u q => by rw [upd_ne (ne_of_none q hp)]; exact q⟩
  tb := r.tb.ext fun b u h => by rw [upd_ne (ne_of_none h hp)]; exact h
/-- it is given to the still part -/
theorem Fit.still (r : Fit f μ F H) (ho : H a = some o) (nf : F a = none) (nb : f.B a = none) (nm : μ a = none) (nt : ∀ ps, o ≠ .tbl ps) : Fit f μ (upd F a o) H where
  bh := r.bh
  bn := r.bn
  f0 := fun b u h => by
    have h' := r.f0 b u h
    rw [upd_ne (ne_of_none h' nf)]
    exact h'
  fh := fun b u h => by
    by_cases e : b = a
    · subst e
      rw [upd_same] at h
      cases h
      exact ho
    · rw [upd_ne e] at h
      exact r.fh b u h
  fb := fun b u h => by
    by_cases e : b = a
    · subst e
      exact .inr nb
    · rw [upd_ne e] at h
      exact r.fb b u h
  ft := fun b ps h => by
    by_cases e : b = a
    · subst e
      rw [upd_same] at h
      exact nt ps (Option.some.inj h)
    · rw [upd_ne e] at h
      exact r.ft b ps h
  mu := fun b m h => by
    obtain ⟨h1, h2, h3⟩ := r.mu b m h
    have e : b ≠ a := fun e => by
      subst e
      rw [nm] at h
      cases h
    exact ⟨by rw [upd_ne e]; exact h1, h2, h3.stay (fun x u q => by rw [upd_ne (ne_of_none q nf)]; exact q) fun _ q => q⟩
  tb := r.tb
theorem same_upd (nf : F a = none) : Same F (upd F a o) := fun b u h => by
  rw [upd_ne (ne_of_none h nf)]
  exact h
theorem Fit.bnone (r : Fit f μ F H) (hp : H p = none) : F p = none := by
  cases h : F p with
  | none => rfl
  | some o =>
    rw [r.fh p o h] at hp
    cases hp
theorem Fit.mnone (r : Fit f μ F H) (hp : H p = none) : μ p = none := by
  cases h : μ p with
  | none => rfl
  | some m =>
    obtain ⟨_, _, h3⟩ := r.mu p m h
    obtain ⟨o, ho, _⟩ := h3.there
    rw [ho] at hp
    cases hp
variable {Q : VK}
theorem Rel.laid (r : Rel f env μ σ F H) (hp : H p = none) (nt : ∀ ps, o ≠ .tbl ps) : Rel f env μ σ F (upd H p o) :=
  { r.toFit.laid hp nt with
    len := r.len
    dj := r.dj
    sl := fun i sv h => (r.sl i sv h).stay (Same.refl _) fun a u _ hf _ _ q => ⟨by rw [upd_ne (ne_of_none q hp)]; exact q, hf⟩ }
theorem Rel.still (r : Rel f env μ σ F H) (ho : H a = some o) (nf : F a = none) (nb : f.B a = none) (nm : μ a = none) (nt : ∀ ps, o ≠ .tbl ps) (no : ∀ (i : Nat) (k' : Cont), env[i]? = some (some (.own k')) → σ[i]? ≠ some (some (.ref a))) :
    Rel f env μ σ (upd F a o) H :=
  { r.toFit.still ho nf nb nm nt with
    len := r.len
    dj := r.dj
    sl := fun i sv h => by
      cases sv with
      | val d =>
        obtain ⟨v, h1, h2⟩ := r.sl i _ h
        exact ⟨v, h1, Rep.mono (same_upd nf) _ _ h2⟩
      | own k => exact (r.sl i _ h).stay (same_upd nf) fun a' u h1 h2 _ _ q => ⟨q, by
          have e : a' ≠ a := fun e => by
            subst e
            exact no i k h h1
          rw [upd_ne e]
          exact h2⟩ }
theorem Rel.notOwn (r : Rel f env μ σ F H) (hp : H p = none) : ∀ (i : Nat) (k' : Cont), env[i]? = some (some (.own k')) → σ[i]? ≠ some (some (.ref p)) := fun i k' h z => by
  obtain ⟨a, g1, g2, g3, g4, g5⟩ := r.sl i _ h
  obtain ⟨o, ho, _⟩ := g5.there
  rw [z] at g1
  cases g1
  rw [ho] at hp
  cases hp
theorem Cont.still_ok {l : List D} (h : ContAt f.c F H a (.lst l)) (nf : F a = none) : ∃ o, H a = some o ∧ (∀ ps, o ≠ .tbl ps) ∧ Rep f.c (upd F a o) (.ref a) (.lst l) := by
  obtain ⟨xs, h1, h2⟩ := h
  exact ⟨_, h1, (fun ps z => by cases z), .lst upd_same (Reps.mono (same_upd nf) _ _ h2)⟩
theorem ContAt.still (h : ContAt f.c F H a k) (nf : F a = none) : ∃ o, H a = some o ∧ (∀ ps, o ≠ .tbl ps) ∧ Rep f.c (upd F a o) (.ref a) k.d := by
  cases k with
  | lst l => exact Cont.still_ok h nf
  | dic ks vs =>
    obtain ⟨kvs, h1, h2, h3⟩ := h
    subst h2
    exact ⟨_, h1, (fun ps z => by cases z), .dic upd_same (Reps.mono (same_upd nf) _ _ h3)⟩
  | dct ks vs =>
    obtain ⟨kvs, h1, h2, h3⟩ := h
    subst h2
    exact ⟨_, h1, (fun ps z => by cases z), .dct upd_same (Reps.mono (same_upd nf) _ _ h3)⟩
/-- what is fresh is laid still -/
theorem settle {v : V} {r : R} (q : Rel f env μ σ F H) (h : RR f env μ σ F H v r) : ∃ F', Rel f env μ σ F' H ∧ Same F F' ∧ RZ f env σ F' v r := by
  cases r with
  | fz d => exact ⟨F, q, Same.refl _, h⟩
  | bor i k => exact ⟨F, q, Same.refl _, h⟩
  | fresh k =>
    obtain ⟨a, rfl, nf, nb, nm, no, hc⟩ := h
    obtain ⟨o, ho, nt, hr⟩ := hc.still nf
    exact ⟨_, q.still ho nf nb nm nt no, same_upd nf, hr⟩
/-- as it may be read, in the whole heap -/
theorem RZ.rep {v : V} {r : R} (q : Rel f env μ σ F H) (h : RZ f env σ F v r) : Rep f.c H v r.d := by
  cases r with
  | fz d => exact Rep.mono q.fh _ _ h
  | fresh k => exact Rep.mono q.fh _ _ h
  | bor i k =>
    obtain ⟨h1, h2⟩ := h
    obtain ⟨a, h3, h5, h6, h7, h8⟩ := q.sl i _ h1
    rw [h2] at h3
    cases h3
    cases k with
    | lst l =>
      obtain ⟨xs, g1, g2⟩ := h8
      exact .lst g1 (Reps.mono q.fh _ _ g2)
    | dic ks vs =>
      obtain ⟨kvs, g1, g2, g3⟩ := h8
      subst g2
      exact .dic g1 (Reps.mono q.fh _ _ g3)
    | dct ks vs =>
      obtain ⟨kvs, g1, g2, g3⟩ := h8
      subst g2
      exact .dct g1 (Reps.mono q.fh _ _ g3)
theorem RZ.mono {v : V} {r : R} (e : Same F F') (h : RZ f env σ F v r) : RZ f env σ F' v r := by
  cases r with
  | fz d => exact Rep.mono e _ _ h
  | fresh k => exact Rep.mono e _ _ h
  | bor i k => exact h
/-- a list that is read: its items stand still -/
theorem RZ.lst {v : V} {r : R} {l : List D} (q : Rel f env μ σ F H) (h : RZ f env σ F v r) (e : r.d = .lst l) : ∃ a xs, v = .ref a ∧ H a = some (.lst xs) ∧ Reps f.c F xs l := by
  have still : Rep f.c F v (.lst l) → ∃ a xs, v = .ref a ∧ H a = some (.lst xs) ∧ Reps f.c F xs l := fun h => by
    cases h with
    | lst s r => exact ⟨_, _, rfl, q.fh _ _ s, r⟩
  cases r with
  | fz d =>
    subst e
    exact still h
  | fresh k =>
    have h' : Rep f.c F v (R.fresh k).d := h
    rw [e] at h'
    exact still h'
  | bor i k =>
    obtain ⟨h1, h2⟩ := h
    obtain ⟨a, h3, h5, h6, h7, h8⟩ := q.sl i _ h1
    rw [h2] at h3
    cases h3
    cases k with
    | lst l' =>
      have e' : l' = l := by
        have e2 : D.lst l' = D.lst l := e
        injection e2
      subst e'
      obtain ⟨xs, g1, g2⟩ := h8
      exact ⟨_, _, rfl, g1, g2⟩
    | dic ks vs =>
      have e2 : D.dic ks vs = D.lst l := e
      cases e2
    | dct ks vs =>
      have e2 : D.dct ks vs = D.lst l := e
      cases e2
theorem RZ.tup {v : V} {r : R} {l : List D} (q : Rel f env μ σ F H) (h : RZ f env σ F v r) (e : r.d = .tup l) : ∃ a xs, v = .ref a ∧ SqT f.c.K H a xs ∧ Reps f.c F xs l := by
  cases r with
  | fz d =>
    subst e
    have h' : Rep f.c F v (.tup l) := h
    cases h' with
    | tup s r => exact ⟨_, _, rfl, SqT.of (q.fh _ _ s), r⟩
  | fresh k => cases k <;> cases e
  | bor i k => cases k <;> cases e
theorem RZ.int {v : V} {r : R} {i : Int} (h : RZ f env σ F v r) (e : r.d = .int i) : v = .int i := by
  cases r with
  | fz d =>
    subst e
    have h' : Rep f.c F v (.int i) := h
    cases h'
    rfl
  | fresh k => cases k <;> cases e
  | bor j k => cases k <;> cases e
theorem RZ.bl {v : V} {r : R} {i : Bool} (h : RZ f env σ F v r) (e : r.d = .bl i) : v = .bl i := by
  cases r with
  | fz d =>
    subst e
    have h' : Rep f.c F v (.bl i) := h
    cases h'
    rfl
  | fresh k => cases k <;> cases e
  | bor j k => cases k <;> cases e
theorem RZ.str {v : V} {r : R} {i : Str} (h : RZ f env σ F v r) (e : r.d = .str i) : v = .str i := by
  cases r with
  | fz d =>
    subst e
    have h' : Rep f.c F v (.str i) := h
    cases h'
    rfl
  | fresh k => cases k <;> cases e
  | bor j k => cases k <;> cases e
end
/-! ### plain transformers, and how they are lifted -/
abbrev WE := Ev → Mu → (R → Mu → Prop) → (Exc → Mu → Prop) → Prop
abbrev WT := Ev → Mu → (Bool → Mu → Prop) → (Exc → Mu → Prop) → Prop
abbrev WA := Ev → Mu → (List D → Mu → Prop) → (Exc → Mu → Prop) → Prop
structure En where
  nx : Ev → Mu → Prop
  rt : R → Mu → Prop
  bk : Ev → Mu → Prop
  ct : Ev → Mu → Prop
  ex : Exc → Mu → Prop
abbrev WS := En → Ev → Mu → Prop
/-- an exception, as it stands -/
def XR (c : Cfg) (F H : Hp) (x : Exc) (cls : Value) (d : Option Addr) : Prop :=
  ∃ (C dx : Addr) (fs : List (Str × V)), c.mg x.cn = some (.ref C) ∧ cls = .ref C ∧ d = some dx ∧ F dx = some (.xd fs) ∧ fs.map (·.1) = x.fs.map (·.1) ∧ Reps c F (fs.map (·.2)) (x.fs.map (·.2))
section
variable (f : Fm) (W : WX)
def Lf (w : WE) : TE := fun σ H Q => ∃ env μ F Qp Ep, Rel f env μ σ F H ∧ w env μ Qp Ep ∧
  (∀ r μ' v F' H', Rel f env μ' σ F' H' → Same F F' → RR f env μ' σ F' H' v r → Qp r μ' → Q v H') ∧
  (∀ x μ' cls d F' H', Rel f env μ' σ F' H' → Same F F' → XR f.c F' H' x cls d → Ep x μ' → W cls d σ H')
def Lt (w : WT) : TT := fun σ H Q => ∃ env μ F Qp Ep, Rel f env μ σ F H ∧ w env μ Qp Ep ∧
  (∀ b μ' F' H', Rel f env μ' σ F' H' → Same F F' → Qp b μ' → Q b H') ∧
  (∀ x μ' cls d F' H', Rel f env μ' σ F' H' → Same F F' → XR f.c F' H' x cls d → Ep x μ' → W cls d σ H')
def La (w : WA) : TA := fun σ H Q => ∃ env μ F Qp Ep, Rel f env μ σ F H ∧ w env μ Qp Ep ∧
  (∀ ds μ' vs F' H', Rel f env μ' σ F' H' → Same F F' → Reps f.c F' vs ds → Qp ds μ' → Q vs H') ∧
  (∀ x μ' cls d F' H', Rel f env μ' σ F' H' → Same F F' → XR f.c F' H' x cls d → Ep x μ' → W cls d σ H')
/-- behind a statement -/
structure EnOk (F : Hp) (n : En) (Dn : Ends) : Prop where
  nx : ∀ env' μ' σ' F' H', Rel f env' μ' σ' F' H' → Same F F' → n.nx env' μ' → Dn.nx σ' H'
  bk : ∀ env' μ' σ' F' H', Rel f env' μ' σ' F' H' → Same F F' → n.bk env' μ' → Dn.bk σ' H'
  ct : ∀ env' μ' σ' F' H', Rel f env' μ' σ' F' H' → Same F F' → n.ct env' μ' → Dn.ct σ' H'
  rt : ∀ r env' μ' σ' v F' H', Rel f env' μ' σ' F' H' → Same F F' → RR f env' μ' σ' F' H' v r → n.rt r μ' → Dn.rt v H'
  ex : ∀ x env' μ' σ' cls d F' H', Rel f env' μ' σ' F' H' → Same F F' → XR f.c F' H' x cls d → n.ex x μ' → W cls d σ' H'
def Ls (w : WS) : TS := fun Dn σ H => ∃ env μ F n, Rel f env μ σ F H ∧ w n env μ ∧ EnOk f W F n Dn
end
/-! ### changing a reading -/
section
variable {X : Cx} {e : Expr} {es : List Expr} {st : Stmt} {ss : List Stmt}
theorem pe_imp {t t' : TE} (h : PE X e t) (i : ∀ σ H Q, t' σ H Q → t σ H Q) : PE X e t' := ⟨fun pins s σ H Q I q => h.run pins s σ H Q I (i _ _ _ q)⟩
theorem pt_imp {t t' : TT} (h : PT X e t) (i : ∀ σ H Q, t' σ H Q → t σ H Q) : PT X e t' := ⟨fun pins s σ H Q I q => h.run pins s σ H Q I (i _ _ _ q)⟩
theorem pw_imp {t t' : TT} (h : PW X e t) (i : ∀ σ H Q, t' σ H Q → t σ H Q) : PW X e t' := ⟨fun wh pins s σ H Q I q => h.run wh pins s σ H Q I (i _ _ _ q)⟩
theorem pa_imp {t t' : TA} (h : PA X es t) (i : ∀ σ H Q, t' σ H Q → t σ H Q) : PA X es t' := ⟨fun pos pins s σ H Q I q => h.run pos pins s σ H Q I (i _ _ _ q)⟩
theorem ps_imp {t t' : TS} (h : PS X st t) (i : ∀ D σ H, t' D σ H → t D σ H) : PS X st t' := ⟨fun pins s σ H D I q => h.run pins s σ H D I (i _ _ _ q)⟩
theorem pss_imp {t t' : TS} (h : PSs X ss t) (i : ∀ D σ H, t' D σ H → t D σ H) : PSs X ss t' := ⟨fun pins s σ H D I q => h.run pins s σ H D I (i _ _ _ q)⟩
end
/-! ### binding: one part, two parts -/
section
variable {f : Fm} {W : WX} {wa wb : WE} {K : PySem.W.Frag}
/-- one operand; g is asked of what it yields -/
theorem lf1 {g : R → Ev → Mu → (R → Mu → Prop) → (Exc → Mu → Prop) → Prop} {r : V → Hp → VK → Prop}
    (step : ∀ env μ σ F H r0 v Q Qp Ep, Rel f env μ σ F H → RR f env μ σ F H v r0 → g r0 env μ Qp Ep →
      (∀ r μ' v F' H', Rel f env μ' σ F' H' → Same F F' → RR f env μ' σ F' H' v r → Qp r μ' → Q v H') →
      (∀ x μ' cls d F' H', Rel f env μ' σ F' H' → Same F F' → XR f.c F' H' x cls d → Ep x μ' → W cls d σ H') → r v H Q)
    (σ : L2.St) (H : Hp) (Q : VK) (h : Lf f W (fun env μ Qp Ep => wa env μ (fun r0 μ0 => g r0 env μ0 Qp Ep) Ep) σ H Q) : Lf f W wa σ H (fun v H1 => r v H1 Q) := by
  obtain ⟨env, μ, F, Qp, Ep, rel, hw, k, kx⟩ := h
  exact ⟨env, μ, F, _, Ep, rel, hw, fun r μ' v F' H' rel' e rr q => step env μ' σ F' H' r v Q Qp Ep rel' rr q
      (fun r μ2 v2 F2 H2 rel2 e2 rr2 q2 => k r μ2 v2 F2 H2 rel2 (e.trans e2) rr2 q2) (fun x μ2 cls d F2 H2 rel2 e2 xr q2 => kx x μ2 cls d F2 H2 rel2 (e.trans e2) xr q2), kx⟩
/-- two operands, both laid still -/
theorem lf2 {g : R → R → Ev → Mu → (R → Mu → Prop) → (Exc → Mu → Prop) → Prop} {r : V → V → Hp → VK → Prop}
    (step : ∀ env μ σ F H r1 r2 v1 v2 Q Qp Ep, Rel f env μ σ F H → RZ f env σ F v1 r1 → RZ f env σ F v2 r2 → g r1 r2 env μ Qp Ep →
      (∀ r μ' v F' H', Rel f env μ' σ F' H' → Same F F' → RR f env μ' σ F' H' v r → Qp r μ' → Q v H') →
      (∀ x μ' cls d F' H', Rel f env μ' σ F' H' → Same F F' → XR f.c F' H' x cls d → Ep x μ' → W cls d σ H') → r v1 v2 H Q)
    (σ : L2.St) (H : Hp) (Q : VK) (h : Lf f W (fun env μ Qp Ep => wa env μ (fun r1 μ1 => wb env μ1 (fun r2 μ2 => g r1 r2 env μ2 Qp Ep) Ep) Ep) σ H Q) :
    Lf f W wa σ H (fun v1 H1 => Lf f W wb σ H1 (fun v2 H2 => r v1 v2 H2 Q)) := by
  obtain ⟨env, μ, F, Qp, Ep, rel, hw, k, kx⟩ := h
  refine ⟨env, μ, F, _, Ep, rel, hw, fun r1 μ1 v1 F1 H1 rel1 e1 rr1 q1 => ?_, kx⟩
  obtain ⟨F1', rel1', e1', rz1⟩ := settle rel1 rr1
  refine ⟨env, μ1, F1', _, Ep, rel1', q1, fun r2 μ2 v2 F2 H2 rel2 e2 rr2 q2 => ?_, fun x μ2 cls d F2 H2 rel2 e2 xr q2 => kx x μ2 cls d F2 H2 rel2 ((e1.trans e1').trans e2) xr q2⟩
  obtain ⟨F2', rel2', e2', rz2⟩ := settle rel2 rr2
  have eA := ((e1.trans e1').trans e2).trans e2'
  exact step env μ2 σ F2' H2 r1 r2 v1 v2 Q Qp Ep rel2' (rz1.mono (e2.trans e2')) rz2 q2
    (fun r μ3 v3 F3 H3 rel3 e3 rr3 q3 => k r μ3 v3 F3 H3 rel3 (eA.trans e3) rr3 q3) (fun x μ3 cls d F3 H3 rel3 e3 xr q3 => kx x μ3 cls d F3 H3 rel3 (eA.trans e3) xr q3)
end
end PD
set_option Elab.async false
set_option linter.all false
set_option maxRecDepth 100000
set_option maxHeartbeats 2000000
/-! PDK: rules of the model that the layer lacks. -/
namespace L2
open PySem PySem.Spec PyProof.Rows
/-- t * k, the very tuple -/
theorem tup_times_same (l : Addr) (items : Array Value) (n : Nat) (dd : Option Addr) (sl : Array (Option Value)) (x : Int) (u : Tok) (hr : (decide (x < -(2 ^ 63)) || decide (x ≥ 2 ^ 63)) = false) (h1 : (items.isEmpty || x == 1) = true) :
    Meets (Builtin.«tuple.__mul__» ⟨[.ref l, .int x u], []⟩) (fun _ R s => s.heap.get? l = some { cls := .type "tuple", dict := dd, data := .seq items n, slots := sl } ∧ R (.ok (.ret (Value.ref l))) s) :=
  .of_wp fun prog w A R s h => by
    obtain ⟨hp, g, d, tk, os⟩ := s
    obtain ⟨hl, h⟩ := h
    have f1 := AutoSeq1.idx_int
    wp_walk using wpAny_loadPart' hl
    repeat (first
      | (refine wpAny_ite_false (decide_eq_false (by rw [hr]; exact Bool.false_ne_true)) ?_; wp_walk using wpAny_loadPart' hl)
      | (refine wpAny_ite_true (decide_eq_true h1) ?_; wp_walk using wpAny_loadPart' hl))
    exact ⟨_, rfl, h⟩
/-- t * k, none left -/
theorem tup_times_none (l : Addr) (items : Array Value) (n : Nat) (dd : Option Addr) (sl : Array (Option Value)) (x : Int) (u : Tok) (hr : (decide (x < -(2 ^ 63)) || decide (x ≥ 2 ^ 63)) = false) (h1 : (items.isEmpty || x == 1) = false) (h2 : (decide (x ≤ 0) || items.isEmpty) = true) :
    Meets (Builtin.«tuple.__mul__» ⟨[.ref l, .int x u], []⟩) (fun _ R s => s.heap.get? l = some { cls := .type "tuple", dict := dd, data := .seq items n, slots := sl } ∧
      R (.ok (.ret (Value.ref s.heap.objs.size))) { s with heap := s.heap.push { cls := Value.type "tuple", data := Data.seq #[] }, toks := s.toks }) :=
  .of_wp fun prog w A R s h => by
    obtain ⟨hp, g, d, tk, os⟩ := s
    obtain ⟨hl, h⟩ := h
    have f1 := AutoSeq1.idx_int
    wp_walk using wpAny_loadPart' hl
    repeat (first
      | (refine wpAny_ite_false (decide_eq_false (by rw [hr]; exact Bool.false_ne_true)) ?_; wp_walk using wpAny_loadPart' hl)
      | (refine wpAny_ite_false (decide_eq_false (by rw [h1]; exact Bool.false_ne_true)) ?_; wp_walk using wpAny_loadPart' hl)
      | (refine wpAny_ite_true (decide_eq_true h2) ?_; wp_walk using wpAny_loadPart' hl))
    exact ⟨_, rfl, h⟩
def rRepU (K : PySem.W.Frag) : R2 := fun x y H Q => ∃ l k xs, x = .ref l ∧ y = .int k ∧ SqT K H l xs ∧ -(2 ^ 63) ≤ k ∧ k < 2 ^ 63 ∧ xs.length * k.toNat ≤ sizeLine ∧
  (xs = [] ∨ k = 1 → Q (.ref l) H) ∧ (xs ≠ [] → k ≠ 1 → ∀ p, H p = none → Q (.ref p) (upd H p (.tup (List.replicate k.toNat xs).flatten)))
section
variable {X : Cx}
theorem op_repU : OpR X (binaryOp .Mult) (rRepU X.K) := by
  intro pins s σ H x y v u Q I rx ry hh
  obtain ⟨l, k, xs, rfl, rfl, hT, lo, hi, hz, qs, qn⟩ := hh
  cases rx
  obtain ⟨t, rfl⟩ := ry
  obtain ⟨its, r, ⟨⟨cls, dd, data, sl⟩, ho, hc, n, hd⟩, hs⟩ := I.tuple hT
  simp only at hc hd
  subst hc hd
  have len : its.length = xs.length := r.length.symm
  have hr : (decide (k < -(2 ^ 63)) || decide (k ≥ 2 ^ 63)) = false := by
    rw [decide_eq_false (by omega), decide_eq_false (by omega)] <;> rfl
  by_cases hsame : xs = [] ∨ k = 1
  · have b1 : (its.toArray.isEmpty || k == 1) = true := by
      rcases hsame with e | e
      · have : its = [] := List.eq_nil_of_length_eq_zero (by rw [len, e]; rfl)
        subst this
        rfl
      · subst e
        simp
    refine wpAny_binaryOp_repeat_ref (T := "tuple") (U := "int") (by decide) ⟨_, ho, rfl⟩ (fun s' => typeIs_int s' k t) noFill_tuple_mul F.fills_int_mul F.slot_int_rmul repeat_tuple F.slot_int_index.lookup
      (call_meets F.slot_int_rmul (typeIs_int s k t) F.entry_int_rmul (F.args_int_rmul_2 _ _) (int_rmul_tuple k t l its.toArray n dd sl)
        ⟨ho, rfl, ⟨_, ho, rfl⟩, call_meets F.slot_tuple_mul ⟨_, ho, rfl⟩ F.entry_tuple_mul (F.args_tuple_mul_2 _ _) (tup_times_same l its.toArray n dd sl k t hr b1) ⟨ho, ?_⟩⟩)
    exact ⟨.ref l, H, I, rfl, qs hsame⟩
  · have hne : xs ≠ [] := fun e => hsame (.inl e)
    have hk1 : k ≠ 1 := fun e => hsame (.inr e)
    have ine : its.toArray.isEmpty = false := by
      cases its with
      | nil => exact absurd (List.eq_nil_of_length_eq_zero len.symm) hne
      | cons a b => rfl
    have b1 : (its.toArray.isEmpty || k == 1) = false := by
      rw [ine, Bool.false_or]
      exact beq_eq_false_iff_ne.mpr hk1
    by_cases h0 : k ≤ 0
    · have b2 : (decide (k ≤ 0) || its.toArray.isEmpty) = true := by
        rw [decide_eq_true h0, Bool.true_or]
      refine wpAny_binaryOp_repeat_ref (T := "tuple") (U := "int") (by decide) ⟨_, ho, rfl⟩ (fun s' => typeIs_int s' k t) noFill_tuple_mul F.fills_int_mul F.slot_int_rmul repeat_tuple F.slot_int_index.lookup
        (call_meets F.slot_int_rmul (typeIs_int s k t) F.entry_int_rmul (F.args_int_rmul_2 _ _) (int_rmul_tuple k t l its.toArray n dd sl)
          ⟨ho, rfl, ⟨_, ho, rfl⟩, call_meets F.slot_tuple_mul ⟨_, ho, rfl⟩ F.entry_tuple_mul (F.args_tuple_mul_2 _ _) (tup_times_none l its.toArray n dd sl k t hr b1 b2) ⟨ho, ?_⟩⟩)
      have e0 : k.toNat = 0 := by omega
      have q' := qn hne hk1
      rw [e0] at q'
      exact ⟨.ref s.heap.objs.size, _, I.laid (t' := s.toks) (o := .tup []) (fun b ob q => Heap.get?_push_of_some _ q) (Nat.le_refl _) ⟨by decide, _, .nil, IsTup.new _ _⟩, rfl, q' _ (I.hok.fresh (Nat.le_refl _))⟩
    · have sz : its.toArray.size = xs.length := by rw [List.size_toArray, len]
      have kt : ((k.toNat : Nat) : Int) = k := by omega
      have prod : ((its.toArray.size : Nat) : Int) * k ≤ (sizeLine : Int) := by
        rw [sz, ← kt]
        have : ((xs.length * k.toNat : Nat) : Int) ≤ (sizeLine : Int) := by omega
        rw [Int.natCast_mul] at this
        exact this
      have b2 : (decide (k ≤ 0) || its.toArray.isEmpty) = false := by
        rw [ine, Bool.or_false]
        exact decide_eq_false h0
      have b4 : Builtin.Tuple.tupleTooMany (((its.toArray.size : Nat) : Int) * k) = false := by
        unfold Builtin.Tuple.tupleTooMany
        exact decide_eq_false (by omega)
      have b3 : ¬ ((its.toArray.size : Nat) : Int) * k > (2 ^ 63 - 1) / 8 := by
        rw [sizeLine_eq] at prod
        omega
      have ft : (List.replicate k.toNat its).flatten.length ≤ sizeLine := by
        rw [PyProof.Rows.lm_len_rep_flat, len, Nat.mul_comm]
        exact hz
      refine wpAny_binaryOp_repeat_ref (T := "tuple") (U := "int") (by decide) ⟨_, ho, rfl⟩ (fun s' => typeIs_int s' k t) noFill_tuple_mul F.fills_int_mul F.slot_int_rmul repeat_tuple F.slot_int_index.lookup
        (call_meets F.slot_int_rmul (typeIs_int s k t) F.entry_int_rmul (F.args_int_rmul_2 _ _) (int_rmul_tuple k t l its.toArray n dd sl)
          ⟨ho, rfl, ⟨_, ho, rfl⟩, call_meets F.slot_tuple_mul ⟨_, ho, rfl⟩ F.entry_tuple_mul (F.args_tuple_mul_2 _ _) (tuple_mulW l its.toArray n dd sl k t hr b1 b2 b3 b4 (by rw [size_rep, List.size_toArray]; exact ft)) ⟨ho, ?_⟩⟩)
      rw [size_rep]
      refine ⟨.ref s.heap.objs.size, _, I.laid (t' := s.toks) (o := .tup (List.replicate k.toNat xs).flatten) (fun b ob q => Heap.get?_push_of_some _ q) (Nat.le_refl _) ?_, rfl, qn hne hk1 _ (I.hok.fresh (Nat.le_refl _))⟩
      exact ⟨by rw [PyProof.Rows.lm_len_rep_flat, Nat.mul_comm]; exact hz, _, r.rep k.toNat, IsTup.new _ _⟩
end
end L2
set_option Elab.async false
set_option linter.all false
set_option maxRecDepth 100000
set_option maxHeartbeats 2000000
/-! PD2: rules for expressions. -/
namespace PD
open PySem PySem.Spec L2
abbrev PX (X : Cx) (f : Fm) (W : WX) (e : Expr) (w : WE) : Prop := PE X e (Lf f W w)
abbrev PXT (X : Cx) (f : Fm) (W : WX) (e : Expr) (w : WT) : Prop := PT X e (Lt f W w)
abbrev PXW (X : Cx) (f : Fm) (W : WX) (e : Expr) (w : WT) : Prop := PW X e (Lt f W w)
abbrev PXA (X : Cx) (f : Fm) (W : WX) (es : List Expr) (w : WA) : Prop := PA X es (La f W w)
abbrev PXS (X : Cx) (f : Fm) (W : WX) (st : Stmt) (w : WS) : Prop := PS X st (Ls f W w)
abbrev PXSs (X : Cx) (f : Fm) (W : WX) (ss : List Stmt) (w : WS) : Prop := PSs X ss (Ls f W w)
section
variable {X : Cx} {f : Fm} {W : WX} {e a b : Expr} {es rest : List Expr} {wa wb w : WE} {pos : Pos}
/-! ### names, constants -/
def wVar (i : Nat) : WE := fun env μ Q _ => match env[i]? with
  | some (some (.val d)) => Q (.fz d) μ
  | some (some (.own k)) => Q (.bor i k) μ
  | _ => False
def wC (d : D) : WE := fun _ μ Q _ => Q (.fz d) μ
theorem lf_now {σ : L2.St} {H : Hp} {Q : VK} (w : WE) (v : V) (h : Lf f W w σ H Q)
    (k : ∀ env μ F Qp Ep, Rel f env μ σ F H → w env μ Qp Ep → ∃ r, RR f env μ σ F H v r ∧ Qp r μ) : Q v H := by
  obtain ⟨env, μ, F, Qp, Ep, rel, hw, kk, kx⟩ := h
  obtain ⟨r, h1, h2⟩ := k env μ F Qp Ep rel hw
  exact kk r μ v F H rel (Same.refl _) h1 h2
theorem px_var {i : Nat} {x : Str} (hN : X.N[i]? = some x) (hv : Vis X.env.scope x) (hd : (x == ("__debug__" : Str)) = false := by decide) (hcd : (x == ("__classdict__" : Str)) = false := by decide) : PX X f W (.Name x pos) (wVar i) := by
  refine pe_imp (pe_var hN hv hd hcd) fun σ H Q h => ?_
  obtain ⟨env, μ, F, Qp, Ep, rel, hw, k, kx⟩ := h
  have key : ∀ sv, env[i]? = some (some sv) → wVar i env μ Qp Ep → tVar i σ H Q := by
    intro sv hsv hw
    cases sv with
    | val d =>
      obtain ⟨v, h1, h2⟩ := rel.sl i _ hsv
      refine ⟨v, h1, k (.fz d) μ v F H rel (Same.refl _) h2 ?_⟩
      unfold wVar at hw
      rw [hsv] at hw
      exact hw
    | own kk =>
      obtain ⟨p, h1, h2⟩ := rel.sl i _ hsv
      refine ⟨.ref p, h1, k (.bor i kk) μ _ F H rel (Same.refl _) ⟨hsv, h1⟩ ?_⟩
      unfold wVar at hw
      rw [hsv] at hw
      exact hw
  cases q : env[i]? with
  | none =>
    unfold wVar at hw
    rw [q] at hw
    exact hw.elim
  | some o =>
    cases o with
    | none =>
      unfold wVar at hw
      rw [q] at hw
      exact hw.elim
    | some sv => exact key sv q hw
theorem px_v (i : Nat) {x : Str} (hN : X.N[i]? = some x := by rfl) (hv : Vis X.env.scope x := by first | exact Or.inl rfl | exact Or.inr (Or.inl rfl) | exact Or.inr (Or.inr rfl)) (hd : (x == ("__debug__" : Str)) = false := by decide)
    (hcd : (x == ("__classdict__" : Str)) = false := by decide) : PX X f W (.Name x pos) (wVar i) := px_var hN hv hd hcd
theorem px_c {v : V} {d : D} (h : PE X e (tC v)) (r : ∀ F, Rep f.c F v d) : PX X f W e (wC d) :=
  pe_imp h fun σ H Q q => lf_now (wC d) v q fun env μ F Qp Ep rel hw => ⟨.fz d, r F, hw⟩
theorem px_int {i j pos} : PX X f W (.Constant (.int i) j pos) (wC (.int i)) := px_c pe_int fun _ => .int _
theorem px_bl {i j pos} : PX X f W (.Constant (.bool i) j pos) (wC (.bl i)) := px_c pe_bl fun _ => .bl _
theorem px_non {j pos} : PX X f W (.Constant .none j pos) (wC .non) := px_c pe_non fun _ => .non
theorem px_str {i j pos} : PX X f W (.Constant (.str i) j pos) (wC (.str i)) := px_c pe_str fun _ => .str _
/-- a module's number or text -/
theorem px_glob {x : Str} {v : V} {u : Value} {d : D} (hg : Gl X x) (hm : X.mg x = some u) (r : RelV v u) (rd : ∀ F, Rep f.c F v d) (hd : (x == ("__debug__" : Str)) = false := by decide) : PX X f W (.Name x pos) (wC d) := px_c (pe_glob hg hm r hd) rd
/-! ### operators -/
def wBin (g : D → D → (R → Prop) → Prop) (wa wb : WE) : WE := fun env μ Q E => wa env μ (fun r1 μ1 => wb env μ1 (fun r2 μ2 => g r1.d r2.d fun r => Q r μ2) E) E
def wUn (g : D → (R → Prop) → Prop) (wa : WE) : WE := fun env μ Q E => wa env μ (fun r1 μ1 => g r1.d fun r => Q r μ1) E
/-- an operator's plain law stands for its rule -/
def OpD (X : Cx) (f : Fm) (r : R2) (g : D → D → (R → Prop) → Prop) : Prop :=
  ∀ (env : Ev) (μ : Mu) (σ : L2.St) (F : Hp) (H : Hp) (r1 r2 : R) (v1 v2 : V) (Q : VK) (Qp : R → Prop), X.K = f.c.K → Rel f env μ σ F H → RZ f env σ F v1 r1 → RZ f env σ F v2 r2 → g r1.d r2.d Qp →
    (∀ r v F' H', Rel f env μ σ F' H' → Same F F' → RR f env μ σ F' H' v r → Qp r → Q v H') → r v1 v2 H Q
theorem px_bin {op : Operator} {r : R2} {g : D → D → (R → Prop) → Prop} (ho : OpR X (binaryOp op) r) (hg : OpD X f r g) (hK : X.K = f.c.K) (ha : PX X f W a wa) (hb : PX X f W b wb) : PX X f W (.BinOp a op b pos) (wBin g wa wb) :=
  pe_imp (pe_op ho ha hb) fun σ H Q h => lf2 (g := fun r1 r2 env μ Qp Ep => g r1.d r2.d fun r => Qp r μ) (fun env μ σ F H r1 r2 v1 v2 Q Qp Ep rel z1 z2 hgg k kx =>
    hg env μ σ F H r1 r2 v1 v2 Q _ hK rel z1 z2 hgg fun r v F' H' rel' e' rr q => k r μ v F' H' rel' e' rr q) σ H Q h
theorem px_cmp {op : CmpOp} {r : R2} {g : D → D → (R → Prop) → Prop} (ho : OpR X (compareOp op) r) (hg : OpD X f r g) (hK : X.K = f.c.K) (ha : PX X f W a wa) (hb : PX X f W b wb) (hm : behindInMarks op b = false) : PX X f W (.Compare a [op] [b] pos) (wBin g wa wb) :=
  pe_imp (pe_cmpR ho ha hb hm) fun σ H Q h => lf2 (g := fun r1 r2 env μ Qp Ep => g r1.d r2.d fun r => Qp r μ) (fun env μ σ F H r1 r2 v1 v2 Q Qp Ep rel z1 z2 hgg k kx =>
    hg env μ σ F H r1 r2 v1 v2 Q _ hK rel z1 z2 hgg fun r v F' H' rel' e' rr q => k r μ v F' H' rel' e' rr q) σ H Q h
theorem px_ix {r : R2} {g : D → D → (R → Prop) → Prop} (ho : IxR X r) (hg : OpD X f r g) (hK : X.K = f.c.K) (ha : PX X f W a wa) (hb : PX X f W b wb) (hs : PlainIx b) : PX X f W (.Subscript a b pos) (wBin g wa wb) :=
  pe_imp (pe_ix ho ha hb hs) fun σ H Q h => lf2 (g := fun r1 r2 env μ Qp Ep => g r1.d r2.d fun r => Qp r μ) (fun env μ σ F H r1 r2 v1 v2 Q Qp Ep rel z1 z2 hgg k kx =>
    hg env μ σ F H r1 r2 v1 v2 Q _ hK rel z1 z2 hgg fun r v F' H' rel' e' rr q => k r μ v F' H' rel' e' rr q) σ H Q h
/-! integers -/
def d2I (C : Int → Int → Prop) (g : Int → Int → D) (x y : D) (Q : R → Prop) : Prop := match x, y with
  | .int i, .int j => C i j ∧ Q (.fz (g i j))
  | _, _ => False
theorem opD_I {C : Int → Int → Prop} {gv : Int → Int → V} {g : Int → Int → D} (hg : ∀ i j F, Rep f.c F (gv i j) (g i j)) : OpD X f (rI C gv) (d2I C g) := by
  intro env μ σ F H r1 r2 v1 v2 Q Qp hK rel z1 z2 h k
  cases e1 : r1.d <;> cases e2 : r2.d <;> rw [e1, e2] at h <;> first | exact h.elim | skip
  rename_i i j
  obtain ⟨hc, hq⟩ := h
  exact ⟨i, j, z1.int e1, z2.int e2, hc, k (.fz _) _ F H rel (Same.refl _) (hg i j F) hq⟩
theorem opD_I0 {gv : Int → Int → V} {g : Int → Int → D} (hg : ∀ i j F, Rep f.c F (gv i j) (g i j)) : OpD X f (rI0 gv) (d2I (fun _ _ => True) g) := by
  intro env μ σ F H r1 r2 v1 v2 Q Qp hK rel z1 z2 h k
  cases e1 : r1.d <;> cases e2 : r2.d <;> rw [e1, e2] at h <;> first | exact h.elim | skip
  rename_i i j
  obtain ⟨hc, hq⟩ := h
  exact ⟨i, j, z1.int e1, z2.int e2, k (.fz _) _ F H rel (Same.refl _) (hg i j F) hq⟩
theorem rr_fz {env : Ev} {μ : Mu} {σ : L2.St} {F H : Hp} {v : V} {d : D} (h : Rep f.c F v d) : RR f env μ σ F H v (.fz d) := h
variable {env : Ev} {μ : Mu} {σ : L2.St} {F H : Hp}
/-- a new tuple is yielded -/
theorem yield_tup {xs : List V} {l : List D} {Q : VK} (rel : Rel f env μ σ F H) (h : Reps f.c F xs l) (k : ∀ v F' H', Rel f env μ σ F' H' → Same F F' → RR f env μ σ F' H' v (.fz (.tup l)) → Q v H') : ∀ p, H p = none → Q (.ref p) (upd H p (.tup xs)) := fun p hp => by
  have nf := rel.bnone hp
  have r1 := rel.laid (o := .tup xs) hp fun ps z => by cases z
  have r2 := r1.still (o := .tup xs) upd_same nf (rel.bt p hp) (rel.mnone hp) (fun ps z => by cases z) (rel.notOwn hp)
  exact k _ _ _ r2 (same_upd nf) (.tup upd_same (Reps.mono (same_upd nf) _ _ h))
/-- a new list is yielded, no one's as yet -/
theorem yield_lst {xs : List V} {l : List D} {Q : VK} (rel : Rel f env μ σ F H) (h : Reps f.c F xs l) (k : ∀ v F' H', Rel f env μ σ F' H' → Same F F' → RR f env μ σ F' H' v (.fresh (.lst l)) → Q v H') : ∀ p, H p = none → Q (.ref p) (upd H p (.lst xs)) := fun p hp =>
  k _ _ _ (rel.laid (o := .lst xs) hp fun ps z => by cases z) (Same.refl _) ⟨p, rfl, rel.bnone hp, rel.bt p hp, rel.mnone hp, rel.notOwn hp, xs, upd_same, h⟩
theorem RZ.fz {v : V} {r : R} (h : RZ f env σ F v r) (nb : ∀ i k, r ≠ .bor i k) : Rep f.c F v r.d := by
  cases r with
  | fz d => exact h
  | fresh k => exact h
  | bor i k => exact absurd rfl (nb i k)
/-! + -/
def dAdd (x y : D) (Q : R → Prop) : Prop := match x, y with
  | .int i, .int j => Q (.fz (.int (i + j)))
  | .str a, .str b => a.length + b.length ≤ sizeLine ∧ Q (.fz (.str (a ++ b)))
  | .tup a, .tup b => a.length + b.length ≤ sizeLine ∧ Q (.fz (.tup (a ++ b)))
  | .lst a, .lst b => a.length + b.length ≤ sizeLine ∧ Q (.fresh (.lst (a ++ b)))
  | _, _ => False
def rAddV (K : PySem.W.Frag) : R2 := fun x y H Q => rI0 (fun i j => .int (i + j)) x y H Q ∨ (∃ i j, x = .str i ∧ y = .str j ∧ i.length + j.length ≤ sizeLine ∧ Q (.str (i ++ j)) H) ∨ rCatA K x y H Q ∨ rCat x y H Q
theorem op_addV : OpR X (binaryOp .Add) (rAddV X.K) := op_add.or (op_add_str.or (op_catA.or op_cat))
theorem reps_nil {xs : List V} (h : Reps f.c F xs []) : xs = [] := by cases h; rfl
theorem opD_add : OpD X f (rAddV X.K) dAdd := by
  intro env μ σ F H r1 r2 v1 v2 Q Qp hK rel z1 z2 h k
  cases e1 : r1.d <;> cases e2 : r2.d <;> rw [e1, e2] at h <;> first | exact h.elim | skip
  · rename_i i j
    exact .inl ⟨i, j, z1.int e1, z2.int e2, k (.fz _) _ F H rel (Same.refl _) (.int _) h⟩
  · rename_i i j
    exact .inr (.inl ⟨i, j, z1.str e1, z2.str e2, h.1, k (.fz _) _ F H rel (Same.refl _) (.str _) h.2⟩)
  · rename_i l1 l2
    obtain ⟨a, xs, rfl, g1, g2⟩ := z1.tup rel e1
    obtain ⟨b, ys, rfl, g3, g4⟩ := z2.tup rel e2
    refine .inr (.inr (.inl ⟨a, b, xs, ys, rfl, rfl, by rw [hK]; exact g1, by rw [hK]; exact g3, by rw [g2.len, g4.len]; exact h.1, fun e => ?_, fun e e' => ?_, fun e e' => ?_⟩))
    · subst e
      cases g2
      refine k (.fz (.tup l2)) _ F H rel (Same.refl _) ?_ (by simpa using h.2)
      have := z2.fz (fun i k e => by rw [e] at e2; cases k <;> cases e2)
      rw [e2] at this
      exact this
    · subst e'
      cases g4
      refine k (.fz (.tup l1)) _ F H rel (Same.refl _) ?_ (by simpa using h.2)
      have := z1.fz (fun i k e => by rw [e] at e1; cases k <;> cases e1)
      rw [e1] at this
      exact this
    · exact yield_tup rel (g2.app g4) fun v F' H' r' s' rr => k _ v F' H' r' s' rr h.2
  · rename_i l1 l2
    obtain ⟨a, xs, rfl, g1, g2⟩ := z1.lst rel e1
    obtain ⟨b, ys, rfl, g3, g4⟩ := z2.lst rel e2
    exact .inr (.inr (.inr ⟨a, b, xs, ys, rfl, rfl, g1, g3, by rw [g2.len, g4.len]; exact h.1, yield_lst rel (g2.app g4) fun v F' H' r' s' rr => k _ v F' H' r' s' rr h.2⟩))
/-! * -/
def dMul (x y : D) (Q : R → Prop) : Prop := match x, y with
  | .int i, .int j => (CMul i j ∨ CMulW i j) ∧ Q (.fz (.int (i * j)))
  | .tup a, .int k => -(2 ^ 63) ≤ k ∧ k < 2 ^ 63 ∧ a.length * k.toNat ≤ sizeLine ∧ Q (.fz (.tup (List.replicate k.toNat a).flatten))
  | .lst a, .int k => -(2 ^ 63) ≤ k ∧ k < 2 ^ 63 ∧ a.length * k.toNat ≤ sizeLine ∧ Q (.fresh (.lst (List.replicate k.toNat a).flatten))
  | _, _ => False
def rMulV (K : PySem.W.Frag) : R2 := fun x y H Q => rI CMul (fun i j => .int (i * j)) x y H Q ∨ rI CMulW (fun i j => .int (i * j)) x y H Q ∨ rRepU K x y H Q ∨ rRep x y H Q
theorem op_mulV : OpR X (binaryOp .Mult) (rMulV X.K) := op_mul.or (op_mulW.or (op_repU.or op_rep))
theorem Reps.times {xs : List V} {l : List D} (h : Reps f.c F xs l) : ∀ k : Nat, Reps f.c F (List.replicate k xs).flatten (List.replicate k l).flatten
  | 0 => .nil
  | k + 1 => by
    rw [List.replicate_succ, List.replicate_succ, List.flatten_cons, List.flatten_cons]
    exact h.app (Reps.times h k)
theorem opD_mul : OpD X f (rMulV X.K) dMul := by
  intro env μ σ F H r1 r2 v1 v2 Q Qp hK rel z1 z2 h k
  cases e1 : r1.d <;> cases e2 : r2.d <;> rw [e1, e2] at h <;> first | exact h.elim | skip
  · rename_i i j
    rcases h.1 with c | c
    · exact .inl ⟨i, j, z1.int e1, z2.int e2, c, k (.fz _) _ F H rel (Same.refl _) (.int _) h.2⟩
    · exact .inr (.inl ⟨i, j, z1.int e1, z2.int e2, c, k (.fz _) _ F H rel (Same.refl _) (.int _) h.2⟩)
  · rename_i l1 n
    obtain ⟨h1, h2, h3, h4⟩ := h
    obtain ⟨a, xs, rfl, g1, g2⟩ := z1.tup rel e1
    refine .inr (.inr (.inl ⟨a, n, xs, rfl, z2.int e2, by rw [hK]; exact g1, h1, h2, by rw [g2.len]; exact h3, fun e => ?_, fun e e' => ?_⟩))
    · refine k (.fz (.tup l1)) _ F H rel (Same.refl _) ?_ ?_
      · have := z1.fz (fun i k e => by rw [e] at e1; cases k <;> cases e1)
        rw [e1] at this
        exact this
      · rcases e with e | e
        · subst e
          cases g2
          simpa using h4
        · subst e
          simpa using h4
    · exact yield_tup rel (Reps.times g2 n.toNat) fun v F' H' r' s' rr => k _ v F' H' r' s' rr h4
  · rename_i l1 n
    obtain ⟨h1, h2, h3, h4⟩ := h
    obtain ⟨a, xs, rfl, g1, g2⟩ := z1.lst rel e1
    exact .inr (.inr (.inr ⟨a, n, xs, rfl, z2.int e2, g1, h1, h2, by rw [g2.len]; exact h3, yield_lst rel (Reps.times g2 n.toNat) fun v F' H' r' s' rr => k _ v F' H' r' s' rr h4⟩))
/-! other operators on whole numbers -/
abbrev dSub := d2I (fun _ _ => True) fun i j => D.int (i - j)
abbrev dMod := d2I (fun _ j => 0 < j) fun i j => D.int (i % j)
abbrev dDiv := d2I CDivW fun i j => D.int (i / j)
abbrev dPow := d2I CPow fun i j => D.int (i ^ j.toNat)
abbrev dShl := d2I CPow fun i j => D.int (i * 2 ^ j.toNat)
abbrev dShr := d2I (fun _ j => 0 ≤ j) fun i j => D.int (i / 2 ^ j.toNat)
abbrev dAnd := d2I (fun _ _ => True) fun i j => D.int (Builtin.bitAnd i j)
abbrev dOr := d2I (fun _ _ => True) fun i j => D.int (Builtin.bitOr i j)
abbrev dLt := d2I (fun _ _ => True) fun i j => D.bl (decide (i < j))
abbrev dLe := d2I (fun _ _ => True) fun i j => D.bl (decide (i ≤ j))
abbrev dGt := d2I (fun _ _ => True) fun i j => D.bl (decide (j < i))
abbrev dGe := d2I (fun _ _ => True) fun i j => D.bl (decide (j ≤ i))
theorem px_add (hK : X.K = f.c.K) (ha : PX X f W a wa) (hb : PX X f W b wb) : PX X f W (.BinOp a .Add b pos) (wBin dAdd wa wb) := px_bin op_addV opD_add hK ha hb
theorem px_mul (hK : X.K = f.c.K) (ha : PX X f W a wa) (hb : PX X f W b wb) : PX X f W (.BinOp a .Mult b pos) (wBin dMul wa wb) := px_bin op_mulV opD_mul hK ha hb
theorem px_sub (hK : X.K = f.c.K) (ha : PX X f W a wa) (hb : PX X f W b wb) : PX X f W (.BinOp a .Sub b pos) (wBin dSub wa wb) := px_bin op_sub (opD_I0 fun _ _ _ => .int _) hK ha hb
theorem px_mod (hK : X.K = f.c.K) (ha : PX X f W a wa) (hb : PX X f W b wb) : PX X f W (.BinOp a .Mod b pos) (wBin dMod wa wb) := px_bin op_mod (opD_I fun _ _ _ => .int _) hK ha hb
theorem px_div (hK : X.K = f.c.K) (ha : PX X f W a wa) (hb : PX X f W b wb) : PX X f W (.BinOp a .FloorDiv b pos) (wBin dDiv wa wb) := px_bin op_fdivW (opD_I fun _ _ _ => .int _) hK ha hb
theorem px_pow (hK : X.K = f.c.K) (ha : PX X f W a wa) (hb : PX X f W b wb) : PX X f W (.BinOp a .Pow b pos) (wBin dPow wa wb) := px_bin op_pow (opD_I fun _ _ _ => .int _) hK ha hb
theorem px_shl (hK : X.K = f.c.K) (ha : PX X f W a wa) (hb : PX X f W b wb) : PX X f W (.BinOp a .LShift b pos) (wBin dShl wa wb) := px_bin op_shl (opD_I fun _ _ _ => .int _) hK ha hb
theorem px_shr (hK : X.K = f.c.K) (ha : PX X f W a wa) (hb : PX X f W b wb) : PX X f W (.BinOp a .RShift b pos) (wBin dShr wa wb) := px_bin op_shr (opD_I fun _ _ _ => .int _) hK ha hb
theorem px_and2 (hK : X.K = f.c.K) (ha : PX X f W a wa) (hb : PX X f W b wb) : PX X f W (.BinOp a .BitAnd b pos) (wBin dAnd wa wb) := px_bin op_and (opD_I0 fun _ _ _ => .int _) hK ha hb
theorem px_or2 (hK : X.K = f.c.K) (ha : PX X f W a wa) (hb : PX X f W b wb) : PX X f W (.BinOp a .BitOr b pos) (wBin dOr wa wb) := px_bin op_or (opD_I0 fun _ _ _ => .int _) hK ha hb
theorem px_lt (hK : X.K = f.c.K) (ha : PX X f W a wa) (hb : PX X f W b wb) : PX X f W (.Compare a [.Lt] [b] pos) (wBin dLt wa wb) := px_cmp op_lt (opD_I0 fun _ _ _ => .bl _) hK ha hb (nomark _)
theorem px_le (hK : X.K = f.c.K) (ha : PX X f W a wa) (hb : PX X f W b wb) : PX X f W (.Compare a [.LtE] [b] pos) (wBin dLe wa wb) := px_cmp op_le (opD_I0 fun _ _ _ => .bl _) hK ha hb (nomark _)
theorem px_gt (hK : X.K = f.c.K) (ha : PX X f W a wa) (hb : PX X f W b wb) : PX X f W (.Compare a [.Gt] [b] pos) (wBin dGt wa wb) := px_cmp op_gt (opD_I0 fun _ _ _ => .bl _) hK ha hb (nomark _)
theorem px_ge (hK : X.K = f.c.K) (ha : PX X f W a wa) (hb : PX X f W b wb) : PX X f W (.Compare a [.GtE] [b] pos) (wBin dGe wa wb) := px_cmp op_ge (opD_I0 fun _ _ _ => .bl _) hK ha hb (nomark _)
end
end PD
set_option Elab.async false
set_option linter.all false
set_option maxRecDepth 100000
set_option maxHeartbeats 2000000
/-! PD3: comparisons, displays, indices, slices, tests, built-in calls. -/
namespace PD
open PySem PySem.Spec L2
/-! ### == -/
mutual
def D.py : D → PyData
  | .non => .none
  | .bl b => .bool b
  | .int i => .int i
  | .str s => .str s
  | .tup l => .tuple (pys l)
  | .lst l => .list (pys l)
  | _ => .none
def pys : List D → List PyData
  | [] => []
  | d :: l => d.py :: pys l
end
mutual
def D.flat : D → Bool
  | .non => true
  | .bl _ => true
  | .int _ => true
  | .str s => PySem.PyData.strOk s
  | .tup l => flats l
  | .lst l => flats l
  | _ => false
def flats : List D → Bool
  | [] => true
  | d :: l => d.flat && flats l
end
mutual
def D.dep : D → Nat
  | .tup l => deps l + 1
  | .lst l => deps l + 1
  | _ => 0
def deps : List D → Nat
  | [] => 0
  | d :: l => max d.dep (deps l)
end
/-- it may be compared -/
def eqok (d : D) : Prop := d.flat = true ∧ SeqAt.shaped d.py = true
def eqv (x y : D) : Bool := PyData.eqv x.py y.py
section
variable {c : Cfg} {H : Hp}
mutual
theorem rep_dp : ∀ (d : D) (v : V), Rep c H v d → d.flat = true → Dp c.K H v d.py
  | .non, _, h, _ => by cases h; exact .non
  | .bl _, _, h, _ => by cases h; exact .bl _
  | .int _, _, h, _ => by cases h; exact .int _
  | .str _, _, h, _ => by cases h; exact .str _
  | .tup l, _, h, e => by
    cases h with
    | tup s r => exact .tup (SqT.of s) (reps_dp l _ r e)
  | .lst l, _, h, e => by
    cases h with
    | lst s r => exact .lst (SqL.of s) (reps_dp l _ r e)
  | .dic _ _, _, h, e => by cases e
  | .dct _ _, _, h, e => by cases e
  | .ins _ _ _, _, h, e => by cases e
  | .hnd _, _, h, e => by cases e
  | .scr _, _, h, e => by cases e
  | .exc _ _ _ _ _, _, h, e => by cases e
theorem reps_dp : ∀ (l : List D) (vs : List V), Reps c H vs l → flats l = true → DpAll c.K H vs (pys l)
  | [], _, h, _ => by cases h; exact .nil
  | d :: l, _, h, e => by
    cases h with
    | cons a b =>
      have e' : (d.flat && flats l) = true := e
      rw [Bool.and_eq_true] at e'
      exact .cons (rep_dp d _ a e'.1) (reps_dp l _ b e'.2)
end
end
def D.isNon : D → Bool
  | .non => true
  | _ => false
section
variable {X : Cx} {f : Fm} {W : WX} {e a b cc : Expr} {es rest : List Expr} {wa wb wc w : WE} {pos : Pos} {env : Ev} {μ : Mu} {σ : L2.St} {F H : Hp}
/-- == -/
def dEqB (g : Bool → Bool) (x y : D) (Q : R → Prop) : Prop := match x, y with
  | .int i, .int j => Q (.fz (.bl (g (decide (i = j)))))
  | .str i, .str j => Q (.fz (.bl (g (decide (i = j)))))
  | .bl i, .bl j => Q (.fz (.bl (g (decide (i = j)))))
  | x, y => eqok x ∧ eqok y ∧ Q (.fz (.bl (g (eqv x y))))
abbrev dEq := dEqB id
abbrev dNe := dEqB not
def rEqW (K : PySem.W.Frag) : R2 := fun x y H Q => rEq x y H Q ∨ rEqD K x y H Q
def rNeW (K : PySem.W.Frag) : R2 := fun x y H Q => rNe x y H Q ∨ rNeD K x y H Q
theorem rz_dp {v : V} {r : R} (q : Rel f env μ σ F H) (h : RZ f env σ F v r) (e : r.d.flat = true) : Dp f.c.K H v r.d.py := rep_dp _ _ (h.rep q) e
theorem dEqB_cases {g : Bool → Bool} {x y : D} {Q : R → Prop} (h : dEqB g x y Q) : (∃ i j, x = .int i ∧ y = .int j ∧ Q (.fz (.bl (g (decide (i = j)))))) ∨ (∃ i j, x = .str i ∧ y = .str j ∧ Q (.fz (.bl (g (decide (i = j)))))) ∨ (∃ i j, x = .bl i ∧ y = .bl j ∧ Q (.fz (.bl (g (decide (i = j)))))) ∨ (eqok x ∧ eqok y ∧ Q (.fz (.bl (g (eqv x y))))) := by
  cases x <;> cases y <;> first | exact .inr (.inr (.inr h)) | exact .inl ⟨_, _, rfl, rfl, h⟩ | exact .inr (.inl ⟨_, _, rfl, rfl, h⟩) | exact .inr (.inr (.inl ⟨_, _, rfl, rfl, h⟩))
theorem opD_eq : OpD X f (rEqW X.K) dEq := by
  intro env μ σ F H r1 r2 v1 v2 Q Qp hK rel z1 z2 h k
  rcases dEqB_cases h with ⟨i, j, e1, e2, q⟩ | ⟨i, j, e1, e2, q⟩ | ⟨i, j, e1, e2, q⟩ | ⟨o1, o2, q⟩
  · rw [z1.int e1, z2.int e2]
    refine .inl ⟨rfl, k (.fz _) _ F H rel (Same.refl _) ?_ q⟩
    have e : decide (V.int i = V.int j) = id (decide (i = j)) := decide_eq_decide.mpr ⟨fun z => V.int.inj z, fun z => congrArg _ z⟩
    rw [e]
    exact Rep.bl _
  · rw [z1.str e1, z2.str e2]
    refine .inl ⟨rfl, k (.fz _) _ F H rel (Same.refl _) ?_ q⟩
    have e : decide (V.str i = V.str j) = id (decide (i = j)) := decide_eq_decide.mpr ⟨fun z => V.str.inj z, fun z => congrArg _ z⟩
    rw [e]
    exact Rep.bl _
  · rw [z1.bl e1, z2.bl e2]
    refine .inl ⟨rfl, k (.fz _) _ F H rel (Same.refl _) ?_ q⟩
    have e : decide (V.bl i = V.bl j) = id (decide (i = j)) := decide_eq_decide.mpr ⟨fun z => V.bl.inj z, fun z => congrArg _ z⟩
    rw [e]
    exact Rep.bl _
  · refine .inr ⟨_, _, ?_, ?_, o1.2, o2.2, k (.fz _) _ F H rel (Same.refl _) (Rep.bl _) q⟩
    · rw [hK]
      exact rz_dp rel z1 o1.1
    · rw [hK]
      exact rz_dp rel z2 o2.1
theorem opD_ne : OpD X f (rNeW X.K) dNe := by
  intro env μ σ F H r1 r2 v1 v2 Q Qp hK rel z1 z2 h k
  rcases dEqB_cases h with ⟨i, j, e1, e2, q⟩ | ⟨i, j, e1, e2, q⟩ | ⟨i, j, e1, e2, q⟩ | ⟨o1, o2, q⟩
  · rw [z1.int e1, z2.int e2]
    refine .inl ⟨rfl, k (.fz _) _ F H rel (Same.refl _) ?_ q⟩
    have e : decide (V.int i = V.int j) = decide (i = j) := decide_eq_decide.mpr ⟨fun z => V.int.inj z, fun z => congrArg _ z⟩
    rw [e]
    exact Rep.bl _
  · rw [z1.str e1, z2.str e2]
    refine .inl ⟨rfl, k (.fz _) _ F H rel (Same.refl _) ?_ q⟩
    have e : decide (V.str i = V.str j) = decide (i = j) := decide_eq_decide.mpr ⟨fun z => V.str.inj z, fun z => congrArg _ z⟩
    rw [e]
    exact Rep.bl _
  · rw [z1.bl e1, z2.bl e2]
    refine .inl ⟨rfl, k (.fz _) _ F H rel (Same.refl _) ?_ q⟩
    have e : decide (V.bl i = V.bl j) = decide (i = j) := decide_eq_decide.mpr ⟨fun z => V.bl.inj z, fun z => congrArg _ z⟩
    rw [e]
    exact Rep.bl _
  · refine .inr ⟨_, _, ?_, ?_, o1.2, o2.2, k (.fz _) _ F H rel (Same.refl _) (Rep.bl _) q⟩
    · rw [hK]
      exact rz_dp rel z1 o1.1
    · rw [hK]
      exact rz_dp rel z2 o2.1
theorem px_eq (hu : X.A.units + 64 < cLine) (hK : X.K = f.c.K) (ha : PX X f W a wa) (hb : PX X f W b wb) : PX X f W (.Compare a [.Eq] [b] pos) (wBin dEq wa wb) := px_cmp (op_eq.or (op_eqD hu)) opD_eq hK ha hb (nomark _)
theorem px_ne (hu : X.A.units + 64 < cLine) (hK : X.K = f.c.K) (ha : PX X f W a wa) (hb : PX X f W b wb) : PX X f W (.Compare a [.NotEq] [b] pos) (wBin dNe wa wb) := px_cmp (op_ne.or (op_neD hu)) opD_ne hK ha hb (nomark _)
/-! ### is None -/
def dIs (g : Bool → Bool) (x y : D) (Q : R → Prop) : Prop := y = .non ∧ Q (.fz (.bl (g x.isNon)))
theorem rz_non {v : V} {r : R} (h : RZ f env σ F v r) (rel : Rel f env μ σ F H) : decide (v = V.non) = r.d.isNon := by
  have h' := h.rep rel
  generalize r.d = d at h'
  cases h' <;> rfl
theorem rz_nonV {v : V} {r : R} (h : RZ f env σ F v r) (rel : Rel f env μ σ F H) (e : r.d = .non) : v = .non := by
  have h' := h.rep rel
  rw [e] at h'
  cases h'
  rfl
theorem px_isN (hK : X.K = f.c.K) (ha : PX X f W a wa) (hb : PX X f W b wb) : PX X f W (.Compare a [.Is] [b] pos) (wBin (dIs id) wa wb) := px_cmp op_isN (fun env μ σ F H r1 r2 v1 v2 Q Qp hK rel z1 z2 h k => by
  refine ⟨rz_nonV z2 rel h.1, k (.fz _) _ F H rel (Same.refl _) ?_ h.2⟩
  rw [rz_non z1 rel]
  exact Rep.bl _) hK ha hb (nomark _)
theorem px_notN (hK : X.K = f.c.K) (ha : PX X f W a wa) (hb : PX X f W b wb) : PX X f W (.Compare a [.IsNot] [b] pos) (wBin (dIs not) wa wb) := px_cmp op_notN (fun env μ σ F H r1 r2 v1 v2 Q Qp hK rel z1 z2 h k => by
  refine ⟨rz_nonV z2 rel h.1, k (.fz _) _ F H rel (Same.refl _) ?_ h.2⟩
  rw [rz_non z1 rel]
  exact Rep.bl _) hK ha hb (nomark _)
/-! ### places -/
def dIx (x y : D) (Q : R → Prop) : Prop := match x, y with
  | .tup l, .int i => match atI l i with
    | some d => Q (.fz d)
    | none => False
  | .lst l, .int i => match atI l i with
    | some d => Q (.fz d)
    | none => False
  | .str s, .int i => s.length ≤ sizeLine ∧ match atI s.cps.toList i with
    | some c => Q (.fz (.str ⟨#[c]⟩))
    | none => False
  | _, _ => False
theorem reps_at {c : Cfg} {xs : List V} {l : List D} {i : Int} {d : D} (h : Reps c F xs l) (e : atI l i = some d) : ∃ v, atI xs i = some v ∧ Rep c F v d := by
  unfold atI at e ⊢
  rw [h.len]
  cases q : ixN l.length i with
  | none =>
    rw [q] at e
    cases e
  | some j =>
    rw [q] at e
    exact h.get e
theorem opD_ix : OpD X f (rIx X.K) dIx := by
  intro env μ σ F H r1 r2 v1 v2 Q Qp hK rel z1 z2 h k
  cases e1 : r1.d <;> cases e2 : r2.d <;> rw [e1, e2] at h <;> first | exact h.elim | skip
  · rename_i s i
    obtain ⟨h1, h2⟩ := h
    cases e3 : atI s.cps.toList i with
    | none =>
      simp only [e3] at h2
    | some c =>
      simp only [e3] at h2
      exact .inr (.inr ⟨s, i, c, z1.str e1, z2.int e2, h1, e3, k (.fz _) _ F H rel (Same.refl _) (.str _) h2⟩)
  · rename_i l i
    obtain ⟨a, xs, rfl, g1, g2⟩ := z1.tup rel e1
    unfold dIx at h
    cases e3 : atI l i with
    | none =>
      simp only [e3] at h
    | some d =>
      simp only [e3] at h
      obtain ⟨v, h1, h2⟩ := reps_at g2 e3
      exact .inr (.inl ⟨a, xs, i, v, rfl, z2.int e2, by rw [hK]; exact g1, h1, k (.fz _) _ F H rel (Same.refl _) h2 h⟩)
  · rename_i l i
    obtain ⟨a, xs, rfl, g1, g2⟩ := z1.lst rel e1
    unfold dIx at h
    cases e3 : atI l i with
    | none =>
      simp only [e3] at h
    | some d =>
      simp only [e3] at h
      obtain ⟨v, h1, h2⟩ := reps_at g2 e3
      exact .inl ⟨a, xs, i, v, rfl, z2.int e2, SqL.of g1, h1, k (.fz _) _ F H rel (Same.refl _) h2 h⟩
theorem px_at (hK : X.K = f.c.K) (ha : PX X f W a wa) (hb : PX X f W b wb) (hs : PlainIx b := by intro _ _; rfl) : PX X f W (.Subscript a b pos) (wBin dIx wa wb) := px_ix ix_seq opD_ix hK ha hb hs
end
end PD
set_option Elab.async false
set_option linter.all false
set_option maxRecDepth 100000
set_option maxHeartbeats 2000000
/-! PD4: arguments, displays, slices, tests, built-in calls. -/
namespace PD
open PySem PySem.Spec L2
section
variable {X : Cx} {f : Fm} {W : WX} {e a b cc : Expr} {es rest : List Expr} {wa wb wc w : WE} {wr : WA} {wt wt' wu : WT} {pos : Pos} {env : Ev} {μ : Mu} {σ : L2.St} {F H : Hp}
/-! ### argument lists -/
def R.still : R → (D → Prop) → Prop
  | .fz d, Q => Q d
  | .fresh k, Q => Q k.d
  | .bor _ _, _ => False
def wNil : WA := fun _ μ Q _ => Q [] μ
def wCons (wa : WE) (wr : WA) : WA := fun env μ Q E => wa env μ (fun r μ1 => r.still fun d => wr env μ1 (fun ds μ2 => Q (d :: ds) μ2) E) E
theorem still_ok {r : R} {Q : D → Prop} {v : V} (h : RZ f env σ F v r) (q : r.still Q) : Rep f.c F v r.d ∧ Q r.d := by
  cases r with
  | fz d => exact ⟨h, q⟩
  | fresh k => exact ⟨h, q⟩
  | bor i k => exact q.elim
theorem px_nil : PXA X f W [] wNil := pa_imp pa_nil fun σ H Q h => by
  obtain ⟨env, μ, F, Qp, Ep, rel, hw, k, kx⟩ := h
  exact k [] μ [] F H rel (Same.refl _) .nil hw
theorem px_cons (ha : PX X f W e wa) (hr : PXA X f W es wr) (hs : starEach (e :: es) X.env = (false, eval e X.env) :: starEach es X.env := by rfl) : PXA X f W (e :: es) (wCons wa wr) := pa_imp (pa_cons ha hr hs) fun σ H Q h => by
  obtain ⟨env, μ, F, Qp, Ep, rel, hw, k, kx⟩ := h
  refine ⟨env, μ, F, _, Ep, rel, hw, fun r1 μ1 v1 F1 H1 rel1 e1 rr1 q1 => ?_, kx⟩
  obtain ⟨F1', rel1', e1', rz1⟩ := settle rel1 rr1
  obtain ⟨s1, q1'⟩ := still_ok rz1 q1
  refine ⟨env, μ1, F1', _, Ep, rel1', q1', fun ds μ2 vs F2 H2 rel2 e2 rr2 q2 => ?_, fun x μ2 cls d F2 H2 rel2 e2 xr q2 => kx x μ2 cls d F2 H2 rel2 ((e1.trans e1').trans e2) xr q2⟩
  exact k (r1.d :: ds) μ2 (v1 :: vs) F2 H2 rel2 ((e1.trans e1').trans e2) (.cons (Rep.mono e2 _ _ s1) rr2) q2
/-! ### displays -/
def wTup (wr : WA) : WE := fun env μ Q E => wr env μ (fun ds μ1 => ds.length ≤ sizeLine ∧ Q (.fz (.tup ds)) μ1) E
def wLst (wr : WA) : WE := fun env μ Q E => wr env μ (fun ds μ1 => ds.length ≤ sizeLine ∧ Q (.fresh (.lst ds)) μ1) E
theorem px_tup {x1} (h : PXA X f W es wr) : PX X f W (.Tuple es x1 pos) (wTup wr) := pe_imp (pe_tup h) fun σ H Q h => by
  obtain ⟨env, μ, F, Qp, Ep, rel, hw, k, kx⟩ := h
  refine ⟨env, μ, F, _, Ep, rel, hw, fun ds μ1 vs F1 H1 rel1 e1 rr1 q1 => ⟨by rw [rr1.len]; exact q1.1, ?_⟩, kx⟩
  exact yield_tup rel1 rr1 fun v F' H' r' s' rr => k _ μ1 v F' H' r' (e1.trans s') rr q1.2
theorem px_lst (h : PXA X f W es wr) : PX X f W (.List es pos) (wLst wr) := pe_imp (pe_lst h) fun σ H Q h => by
  obtain ⟨env, μ, F, Qp, Ep, rel, hw, k, kx⟩ := h
  refine ⟨env, μ, F, _, Ep, rel, hw, fun ds μ1 vs F1 H1 rel1 e1 rr1 q1 => ⟨by rw [rr1.len]; exact q1.1, ?_⟩, kx⟩
  exact yield_lst rel1 rr1 fun v F' H' r' s' rr => k _ μ1 v F' H' r' (e1.trans s') rr q1.2
/-! ### slices -/
abbrev WO := Ev → Mu → (Option Int → Mu → Prop) → (Exc → Mu → Prop) → Prop
def Lo (f : Fm) (W : WX) (w : WO) : TO := fun σ H Q => ∃ env μ F Qp Ep, Rel f env μ σ F H ∧ w env μ Qp Ep ∧
  (∀ o μ' F' H', Rel f env μ' σ F' H' → Same F F' → Qp o μ' → Q o H') ∧
  (∀ x μ' cls d F' H', Rel f env μ' σ F' H' → Same F F' → XR f.c F' H' x cls d → Ep x μ' → W cls d σ H')
abbrev PXO (X : Cx) (f : Fm) (W : WX) (e : Option Expr) (w : WO) : Prop := PO X e (Lo f W w)
def wNo : WO := fun _ μ Q _ => Q none μ
def wPart (wa : WE) : WO := fun env μ Q E => wa env μ (fun r μ1 => match r.d with
  | .int i => Q (some i) μ1
  | _ => False) E
theorem po_imp {o : Option Expr} {t t' : TO} (h : PO X o t) (i : ∀ σ H Q, t' σ H Q → t σ H Q) : PO X o t' := ⟨fun pins s σ H Q I q => h.run pins s σ H Q I (i _ _ _ q)⟩
theorem px_no : PXO X f W none wNo := po_imp po_none fun σ H Q h => by
  obtain ⟨env, μ, F, Qp, Ep, rel, hw, k, kx⟩ := h
  exact k none μ F H rel (Same.refl _) hw
theorem px_part (ha : PX X f W a wa) : PXO X f W (some a) (wPart wa) := po_imp (po_some ha) fun σ H Q h => by
  obtain ⟨env, μ, F, Qp, Ep, rel, hw, k, kx⟩ := h
  refine ⟨env, μ, F, _, Ep, rel, hw, fun r1 μ1 v1 F1 H1 rel1 e1 rr1 q1 => ?_, kx⟩
  obtain ⟨F1', rel1', e1', rz1⟩ := settle rel1 rr1
  cases e2 : r1.d <;> rw [e2] at q1 <;> first | exact q1.elim | skip
  rename_i i
  exact ⟨i, rz1.int e2, k (some i) μ1 F1' H1 rel1' (e1.trans e1') q1⟩
def cutD (xs : List D) (lo hi : Option Int) : List D := (xs.drop (HT.sIx xs.length 0 lo)).take (HT.sIx xs.length xs.length hi - HT.sIx xs.length 0 lo)
def dSl (x : D) (lo hi : Option Int) (Q : R → Prop) : Prop := match x with
  | .tup l => Q (.fz (.tup (cutD l lo hi)))
  | .lst l => Q (.fresh (.lst (cutD l lo hi)))
  | .scr l => Q (.fresh (.lst (cutD (l.map .int) lo hi)))
  | .str s => s.length ≤ sizeLine ∧ Q (.fz (.str (cutS s lo hi)))
  | _ => False
theorem rz_scr {v : V} {r : R} {ns : List Int} (h : RZ f env σ F v r) (rel : Rel f env μ σ F H) (e : r.d = .scr ns) : ∃ a, v = .ref a ∧ SqL f.c.K F a (ns.map V.int) ∧ ns.length ≤ 63 := by
  cases r with
  | fz d =>
    subst e
    have h' : Rep f.c F v (.scr ns) := h
    cases h' with
    | scr s z => exact ⟨_, rfl, s, z⟩
  | fresh k => cases k <;> cases e
  | bor i k => cases k <;> cases e
def wSl (wa : WE) (wl wh : WO) : WE := fun env μ Q E => wa env μ (fun r μ1 => wl env μ1 (fun lo μ2 => wh env μ2 (fun hi μ3 => dSl r.d lo hi fun r' => Q r' μ3) E) E) E
theorem reps_cut {c : Cfg} {xs : List V} {l : List D} (h : Reps c F xs l) (lo hi : Option Int) : Reps c F (cutV xs lo hi) (cutD l lo hi) := by
  unfold cutV cutD
  rw [h.len]
  exact (h.drop _).take _
theorem cutD_all {l : List D} {lo hi : Option Int} (h : HT.sIx l.length 0 lo = 0 ∧ HT.sIx l.length l.length hi = l.length) : cutD l lo hi = l := by
  unfold cutD
  rw [h.1, h.2]
  simp
def rSlV (K : PySem.W.Frag) : V → Option Int → Option Int → Hp → VK → Prop := fun x lo hi H Q => rSlA K x lo hi H Q ∨ rSlL K x lo hi H Q ∨ rSlS x lo hi H Q
theorem px_slice {p2 : Pos} {lo hi : Option Expr} {wl wh : WO} (hK : X.K = f.c.K) (ha : PX X f W a wa) (hl : PXO X f W lo wl) (hh : PXO X f W hi wh) : PX X f W (.Subscript a (.Slice lo hi none p2) pos) (wSl wa wl wh) :=
  pe_imp (pe_slice (r := rSlV X.K) (sl_tupA.or (sl_list.or sl_str)) ha hl hh) fun σ H Q h => by
    obtain ⟨env, μ, F, Qp, Ep, rel, hw, k, kx⟩ := h
    refine ⟨env, μ, F, _, Ep, rel, hw, fun r1 μ1 v1 F1 H1 rel1 e1 rr1 q1 => ?_, kx⟩
    obtain ⟨F1', rel1', e1', rz1⟩ := settle rel1 rr1
    have eA := e1.trans e1'
    refine ⟨env, μ1, F1', _, Ep, rel1', q1, fun lo μ2 F2 H2 rel2 e2 q2 => ?_, fun x μ2 cls d F2 H2 rel2 e2 xr q2 => kx x μ2 cls d F2 H2 rel2 (eA.trans e2) xr q2⟩
    refine ⟨env, μ2, F2, _, Ep, rel2, q2, fun hi μ3 F3 H3 rel3 e3 q3 => ?_, fun x μ2 cls d F2 H2 rel2 e3 xr q2 => kx x μ2 cls d F2 H2 rel2 ((eA.trans e2).trans e3) xr q2⟩
    have eB := (eA.trans e2).trans e3
    have rz3 := rz1.mono (e2.trans e3)
    cases d1 : r1.d <;> rw [d1] at q3 <;> first | exact q3.elim | skip
    · rename_i s
      exact .inr (.inr ⟨s, rz3.str d1, q3.1, k (.fz _) μ3 _ F3 H3 rel3 eB (.str _) q3.2⟩)
    · rename_i l
      obtain ⟨p, xs, rfl, g1, g2⟩ := rz3.tup rel3 d1
      refine .inl ⟨p, xs, rfl, by rw [hK]; exact g1, fun hz => ?_, fun hz => ?_⟩
      · rw [g2.len] at hz
        refine k (.fz (.tup l)) μ3 _ F3 H3 rel3 eB ?_ (by rw [← cutD_all hz]; exact q3)
        have := rz3.fz (fun i k e => by rw [e] at d1; cases k <;> cases d1)
        rw [d1] at this
        exact this
      · exact yield_tup rel3 (reps_cut g2 lo hi) fun v F' H' r' s' rr => k _ μ3 v F' H' r' (eB.trans s') rr q3
    · rename_i l
      obtain ⟨p, xs, rfl, g1, g2⟩ := rz3.lst rel3 d1
      exact .inr (.inl ⟨p, xs, rfl, SqL.of g1, yield_lst rel3 (reps_cut g2 lo hi) fun v F' H' r' s' rr => k _ μ3 v F' H' r' (eB.trans s') rr q3⟩)
    · rename_i l
      obtain ⟨p, rfl, g1, g2⟩ := rz_scr rz3 rel3 d1
      exact .inr (.inl ⟨p, _, rfl, by rw [hK]; exact rel3.fh.seq g1, yield_lst rel3 (reps_cut (Reps.ints l) lo hi) fun v F' H' r' s' rr => k _ μ3 v F' H' r' (eB.trans s') rr q3⟩)
/-- xs[::-1] of a list -/
def dRev (x : D) (Q : R → Prop) : Prop := match x with
  | .lst l => Q (.fresh (.lst l.reverse))
  | _ => False
theorem px_rev {k : Nat} {p1 p2 p3 : Pos} (ha : PX X f W a wa) : PX X f W (.Subscript a (.Slice none none (some (.UnaryOp .USub (.Constant (.int 1) k p1) p2)) p3) pos) (wUn dRev wa) := pe_imp (pe_revL ha) fun σ H Q h => by
  obtain ⟨env, μ, F, Qp, Ep, rel, hw, k, kx⟩ := h
  refine ⟨env, μ, F, _, Ep, rel, hw, fun r1 μ1 v1 F1 H1 rel1 e1 rr1 q1 => ?_, kx⟩
  obtain ⟨F1', rel1', e1', rz1⟩ := settle rel1 rr1
  cases e2 : r1.d <;> rw [e2] at q1 <;> first | exact q1.elim | skip
  rename_i l
  obtain ⟨p, xs, rfl, g1, g2⟩ := rz1.lst rel1' e2
  exact ⟨p, xs, rfl, SqL.of g1, yield_lst rel1' g2.rev fun v F' H' r' s' rr => k _ μ1 v F' H' r' ((e1.trans e1').trans s') rr q1⟩
/-! ### tests -/
def wVal (w : WE) : WT := fun env μ Q E => w env μ (fun r μ1 => match r.d with
  | .bl b => Q b μ1
  | _ => False) E
theorem lt_val {σ : L2.St} {H : Hp} {Q : Bool → Hp → Prop} (h : Lt f W (wVal w) σ H Q) : Lf f W w σ H (fun x H' => ∃ k, x = .bl k ∧ Q k H') := by
  obtain ⟨env, μ, F, Qp, Ep, rel, hw, k, kx⟩ := h
  refine ⟨env, μ, F, _, Ep, rel, hw, fun r1 μ1 v1 F1 H1 rel1 e1 rr1 q1 => ?_, kx⟩
  obtain ⟨F1', rel1', e1', rz1⟩ := settle rel1 rr1
  cases e2 : r1.d <;> rw [e2] at q1 <;> first | exact q1.elim | skip
  rename_i b
  exact ⟨b, rz1.bl e2, k b μ1 F1' H1 rel1' (e1.trans e1') q1⟩
theorem pxt_val (h : PX X f W e w) (he : ∀ whole, isTrue e X.env whole = (do let v ← whole; standAt e.pos; holding [v] (truthy v)) := by intro _; rfl) : PXT X f W e (wVal w) := pt_imp (pt_val h he) fun σ H Q q => lt_val q
/-- a comparison, as a test -/
theorem pxt_cmp {op : CmpOp} {r : R2} {g : D → D → (R → Prop) → Prop} (ho : OpR X (compareOp op) r) (hg : OpD X f r g) (hK : X.K = f.c.K) (ha : PX X f W a wa) (hb : PX X f W b wb) (hm : behindInMarks op b = false) : PXT X f W (.Compare a [op] [b] pos) (wVal (wBin g wa wb)) :=
  pt_imp (pt_cmpR ho ha hb hm) fun σ H Q h => lf2 (g := fun r1 r2 env μ Qp Ep => g r1.d r2.d fun r => Qp r μ) (fun env μ σ F H r1 r2 v1 v2 Q Qp Ep rel z1 z2 hgg k kx =>
    hg env μ σ F H r1 r2 v1 v2 Q _ hK rel z1 z2 hgg fun r v F' H' rel' e' rr q => k r μ v F' H' rel' e' rr q) σ H _ (lt_val h)
theorem pxt_lt (hK : X.K = f.c.K) (ha : PX X f W a wa) (hb : PX X f W b wb) : PXT X f W (.Compare a [.Lt] [b] pos) (wVal (wBin dLt wa wb)) := pxt_cmp op_lt (opD_I0 fun _ _ _ => .bl _) hK ha hb (nomark _)
theorem pxt_le (hK : X.K = f.c.K) (ha : PX X f W a wa) (hb : PX X f W b wb) : PXT X f W (.Compare a [.LtE] [b] pos) (wVal (wBin dLe wa wb)) := pxt_cmp op_le (opD_I0 fun _ _ _ => .bl _) hK ha hb (nomark _)
theorem pxt_gt (hK : X.K = f.c.K) (ha : PX X f W a wa) (hb : PX X f W b wb) : PXT X f W (.Compare a [.Gt] [b] pos) (wVal (wBin dGt wa wb)) := pxt_cmp op_gt (opD_I0 fun _ _ _ => .bl _) hK ha hb (nomark _)
theorem pxt_ge (hK : X.K = f.c.K) (ha : PX X f W a wa) (hb : PX X f W b wb) : PXT X f W (.Compare a [.GtE] [b] pos) (wVal (wBin dGe wa wb)) := pxt_cmp op_ge (opD_I0 fun _ _ _ => .bl _) hK ha hb (nomark _)
theorem pxt_eq (hu : X.A.units + 64 < cLine) (hK : X.K = f.c.K) (ha : PX X f W a wa) (hb : PX X f W b wb) : PXT X f W (.Compare a [.Eq] [b] pos) (wVal (wBin dEq wa wb)) := pxt_cmp (op_eq.or (op_eqD hu)) opD_eq hK ha hb (nomark _)
theorem pxt_ne (hu : X.A.units + 64 < cLine) (hK : X.K = f.c.K) (ha : PX X f W a wa) (hb : PX X f W b wb) : PXT X f W (.Compare a [.NotEq] [b] pos) (wVal (wBin dNe wa wb)) := pxt_cmp (op_ne.or (op_neD hu)) opD_ne hK ha hb (nomark _)
def wAndT (wt wu : WT) : WT := fun env μ Q E => wt env μ (fun b μ1 => if b = true then wu env μ1 Q E else Q false μ1) E
def wOrT (wt wu : WT) : WT := fun env μ Q E => wt env μ (fun b μ1 => if b = true then Q true μ1 else wu env μ1 Q E) E
def wNotT (wt : WT) : WT := fun env μ Q E => wt env μ (fun b μ1 => Q (!b) μ1) E
/-- a test, then something by its answer -/
theorem lt1 {g : Bool → Ev → Mu → (Bool → Mu → Prop) → (Exc → Mu → Prop) → Prop} {r : Bool → L2.St → Hp → (Bool → Hp → Prop) → Prop}
    (step : ∀ b σ H Q, Lt f W (fun env μ Qp Ep => g b env μ Qp Ep) σ H Q → r b σ H Q)
    (σ : L2.St) (H : Hp) (Q : Bool → Hp → Prop) (h : Lt f W (fun env μ Qp Ep => wt env μ (fun b μ1 => g b env μ1 Qp Ep) Ep) σ H Q) : Lt f W wt σ H (fun b H1 => r b σ H1 Q) := by
  obtain ⟨env, μ, F, Qp, Ep, rel, hw, k, kx⟩ := h
  exact ⟨env, μ, F, _, Ep, rel, hw, fun b μ1 F1 H1 rel1 e1 q1 => step b σ H1 Q ⟨env, μ1, F1, Qp, Ep, rel1, q1, fun b2 μ2 F2 H2 rel2 e2 q2 => k b2 μ2 F2 H2 rel2 (e1.trans e2) q2,
    fun x μ2 cls d F2 H2 rel2 e2 xr q2 => kx x μ2 cls d F2 H2 rel2 (e1.trans e2) xr q2⟩, kx⟩
theorem lt_now {σ : L2.St} {H : Hp} {Q : Bool → Hp → Prop} {b : Bool} (h : Lt f W (fun _ μ Qp _ => Qp b μ) σ H Q) : Q b H := by
  obtain ⟨env, μ, F, Qp, Ep, rel, hw, k, kx⟩ := h
  exact k b μ F H rel (Same.refl _) hw
theorem pxw_and (ha : PXT X f W a wt) (hb : PXW X f W (.BoolOp .And (b :: rest) pos) wu) : PXW X f W (.BoolOp .And (a :: b :: rest) pos) (wAndT wt wu) := pw_imp (pw_and ha hb) fun σ H Q h =>
  lt1 (g := fun b env μ Qp Ep => if b = true then wu env μ Qp Ep else Qp false μ) (r := fun c σ H1 Q => if c = true then Lt f W wu σ H1 Q else Q false H1) (fun b σ H Q q => by
    cases b with
    | true => exact q
    | false => exact lt_now q) σ H Q h
theorem pxw_or (ha : PXT X f W a wt) (hb : PXW X f W (.BoolOp .Or (b :: rest) pos) wu) : PXW X f W (.BoolOp .Or (a :: b :: rest) pos) (wOrT wt wu) := pw_imp (pw_or ha hb) fun σ H Q h =>
  lt1 (g := fun b env μ Qp Ep => if b = true then Qp true μ else wu env μ Qp Ep) (r := fun c σ H1 Q => if c = true then Q true H1 else Lt f W wu σ H1 Q) (fun b σ H Q q => by
    cases b with
    | true => exact lt_now q
    | false => exact q) σ H Q h
theorem pxw_and1 (ha : PXT X f W a wt) : PXW X f W (.BoolOp .And [a] pos) wt := pw_and1 ha
theorem pxw_or1 (ha : PXT X f W a wt) : PXW X f W (.BoolOp .Or [a] pos) wt := pw_or1 ha
theorem pxt_w (h : PXW X f W e wt) : PXT X f W e wt := h.pt
theorem pxt_not (ha : PXT X f W a wt) : PXT X f W (.UnaryOp .Not a pos) (wNotT wt) := pt_imp (pt_not ha) fun σ H Q h => by
  obtain ⟨env, μ, F, Qp, Ep, rel, hw, k, kx⟩ := h
  exact ⟨env, μ, F, _, Ep, rel, hw, fun b μ1 F1 H1 rel1 e1 q1 => k _ μ1 F1 H1 rel1 e1 q1, kx⟩
/-! ### and, or, not, if-else as values -/
def wAndV (wa wb : WE) : WE := fun env μ Q E => wa env μ (fun r μ1 => match r.d with
  | .bl b => if b = true then wb env μ1 Q E else Q (.fz (.bl false)) μ1
  | _ => False) E
def wOrV (wa wb : WE) : WE := fun env μ Q E => wa env μ (fun r μ1 => match r.d with
  | .bl b => if b = true then Q (.fz (.bl true)) μ1 else wb env μ1 Q E
  | _ => False) E
def dNot (x : D) (Q : R → Prop) : Prop := match x with
  | .bl b => Q (.fz (.bl (!b)))
  | _ => False
theorem px_one {op} (h : PX X f W a wa) : PX X f W (.BoolOp op [a] pos) wa := pe_one h
/-- one operand, settled, then a further transformer in the same slots -/
theorem lf1k {g : R → Ev → Mu → (R → Mu → Prop) → (Exc → Mu → Prop) → Prop} {r : V → L2.St → Hp → VK → Prop}
    (step : ∀ r0 v σ H Q, (∃ env μ F Qp Ep, Rel f env μ σ F H ∧ RZ f env σ F v r0 ∧ g r0 env μ Qp Ep ∧
      (∀ r μ' v F' H', Rel f env μ' σ F' H' → Same F F' → RR f env μ' σ F' H' v r → Qp r μ' → Q v H') ∧
      (∀ x μ' cls d F' H', Rel f env μ' σ F' H' → Same F F' → XR f.c F' H' x cls d → Ep x μ' → W cls d σ H')) → r v σ H Q)
    (σ : L2.St) (H : Hp) (Q : VK) (h : Lf f W (fun env μ Qp Ep => wa env μ (fun r0 μ0 => g r0 env μ0 Qp Ep) Ep) σ H Q) : Lf f W wa σ H (fun v H1 => r v σ H1 Q) := by
  obtain ⟨env, μ, F, Qp, Ep, rel, hw, k, kx⟩ := h
  refine ⟨env, μ, F, _, Ep, rel, hw, fun r1 μ1 v1 F1 H1 rel1 e1 rr1 q1 => ?_, kx⟩
  obtain ⟨F1', rel1', e1', rz1⟩ := settle rel1 rr1
  exact step r1 v1 σ H1 Q ⟨env, μ1, F1', Qp, Ep, rel1', rz1, q1, fun r μ2 v2 F2 H2 rel2 e2 rr2 q2 => k r μ2 v2 F2 H2 rel2 ((e1.trans e1').trans e2) rr2 q2,
    fun x μ2 cls d F2 H2 rel2 e2 xr q2 => kx x μ2 cls d F2 H2 rel2 ((e1.trans e1').trans e2) xr q2⟩
theorem px_and (ha : PX X f W a wa) (hb : PX X f W (.BoolOp .And (b :: rest) pos) wb) : PX X f W (.BoolOp .And (a :: b :: rest) pos) (wAndV wa wb) := pe_imp (pe_and ha hb) fun σ H Q h =>
  lf1k (g := fun r0 env μ0 Qp Ep => match r0.d with
    | .bl b => if b = true then wb env μ0 Qp Ep else Qp (.fz (.bl false)) μ0
    | _ => False) (r := fun x σ H1 Q => ∃ c, x = .bl c ∧ if c = true then Lf f W wb σ H1 Q else Q (.bl false) H1) (fun r0 v σ H Q ⟨env, μ, F, Qp, Ep, rel, rz, q, k, kx⟩ => by
    cases e2 : r0.d <;> rw [e2] at q <;> first | exact q.elim | skip
    rename_i b
    refine ⟨b, rz.bl e2, ?_⟩
    cases b with
    | true => exact ⟨env, μ, F, Qp, Ep, rel, q, k, kx⟩
    | false => exact k (.fz _) μ _ F H rel (Same.refl _) (.bl _) q) σ H Q h
theorem px_or (ha : PX X f W a wa) (hb : PX X f W (.BoolOp .Or (b :: rest) pos) wb) : PX X f W (.BoolOp .Or (a :: b :: rest) pos) (wOrV wa wb) := pe_imp (pe_or ha hb) fun σ H Q h =>
  lf1k (g := fun r0 env μ0 Qp Ep => match r0.d with
    | .bl b => if b = true then Qp (.fz (.bl true)) μ0 else wb env μ0 Qp Ep
    | _ => False) (r := fun x σ H1 Q => ∃ c, x = .bl c ∧ if c = true then Q (.bl true) H1 else Lf f W wb σ H1 Q) (fun r0 v σ H Q ⟨env, μ, F, Qp, Ep, rel, rz, q, k, kx⟩ => by
    cases e2 : r0.d <;> rw [e2] at q <;> first | exact q.elim | skip
    rename_i b
    refine ⟨b, rz.bl e2, ?_⟩
    cases b with
    | true => exact k (.fz _) μ _ F H rel (Same.refl _) (.bl _) q
    | false => exact ⟨env, μ, F, Qp, Ep, rel, q, k, kx⟩) σ H Q h
theorem px_not (ha : PX X f W a wa) : PX X f W (.UnaryOp .Not a pos) (wUn dNot wa) := pe_imp (pe_not ha) fun σ H Q h =>
  lf1k (g := fun r0 env μ0 Qp Ep => dNot r0.d fun r => Qp r μ0) (r := fun x σ H1 Q => ∃ c, x = .bl c ∧ Q (.bl (!c)) H1) (fun r0 v σ H Q ⟨env, μ, F, Qp, Ep, rel, rz, q, k, kx⟩ => by
    cases e2 : r0.d <;> rw [e2] at q <;> first | exact q.elim | skip
    rename_i b
    exact ⟨b, rz.bl e2, k (.fz _) μ _ F H rel (Same.refl _) (.bl _) q⟩) σ H Q h
def dNeg (x : D) (Q : R → Prop) : Prop := match x with
  | .int i => Q (.fz (.int (-i)))
  | _ => False
theorem px_neg (ha : PX X f W a wa) : PX X f W (.UnaryOp .USub a pos) (wUn dNeg wa) := pe_imp (pe_un un_neg ha) fun σ H Q h =>
  lf1k (g := fun r0 env μ0 Qp Ep => dNeg r0.d fun r => Qp r μ0) (r := fun x σ H1 Q => rU (fun i => .int (-i)) x H1 Q) (fun r0 v σ H Q ⟨env, μ, F, Qp, Ep, rel, rz, q, k, kx⟩ => by
    cases e2 : r0.d <;> rw [e2] at q <;> first | exact q.elim | skip
    rename_i i
    exact ⟨i, rz.int e2, k (.fz _) μ _ F H rel (Same.refl _) (.int _) q⟩) σ H Q h
def wIf (wt : WT) (wa wb : WE) : WE := fun env μ Q E => wt env μ (fun b μ1 => if b = true then wa env μ1 Q E else wb env μ1 Q E) E
theorem px_if (hc : PXT X f W cc wt) (ha : PX X f W a wa) (hb : PX X f W b wb) : PX X f W (.IfExp cc a b pos) (wIf wt wa wb) := pe_imp (pe_ifExp hc ha hb) fun σ H Q h => by
  obtain ⟨env, μ, F, Qp, Ep, rel, hw, k, kx⟩ := h
  refine ⟨env, μ, F, _, Ep, rel, hw, fun b μ1 F1 H1 rel1 e1 q1 => ?_, kx⟩
  cases b with
  | true => exact ⟨env, μ1, F1, Qp, Ep, rel1, q1, fun r μ2 v2 F2 H2 rel2 e2 rr2 q2 => k r μ2 v2 F2 H2 rel2 (e1.trans e2) rr2 q2, fun x μ2 cls d F2 H2 rel2 e2 xr q2 => kx x μ2 cls d F2 H2 rel2 (e1.trans e2) xr q2⟩
  | false => exact ⟨env, μ1, F1, Qp, Ep, rel1, q1, fun r μ2 v2 F2 H2 rel2 e2 rr2 q2 => k r μ2 v2 F2 H2 rel2 (e1.trans e2) rr2 q2, fun x μ2 cls d F2 H2 rel2 e2 xr q2 => kx x μ2 cls d F2 H2 rel2 (e1.trans e2) xr q2⟩
/-- a < b <= c and its like, of whole numbers -/
def wChain (p q : Int → Int → Bool) (wa wb wc : WE) : WE := fun env μ Q E => wa env μ (fun r1 μ1 => wb env μ1 (fun r2 μ2 => match r1.d, r2.d with
  | .int i, .int j => if p i j = true then wc env μ2 (fun r3 μ3 => match r3.d with
      | .int k => Q (.fz (.bl (q j k))) μ3
      | _ => False) E else Q (.fz (.bl false)) μ2
  | _, _ => False) E) E
theorem chain_ok {p q : Int → Int → Bool} (σ : L2.St) (H : Hp) (Q : VK) (h : Lf f W (wChain p q wa wb wc) σ H Q) : tChain (rI0 fun i j => .bl (p i j)) (rI0 fun i j => .bl (q i j)) (Lf f W wa) (Lf f W wb) (Lf f W wc) σ H Q := by
  obtain ⟨env, μ, F, Qp, Ep, rel, hw, k, kx⟩ := h
  refine ⟨env, μ, F, _, Ep, rel, hw, fun r1 μ1 v1 F1 H1 rel1 e1 rr1 q1 => ?_, kx⟩
  obtain ⟨F1', rel1', e1', rz1⟩ := settle rel1 rr1
  have eA := e1.trans e1'
  refine ⟨env, μ1, F1', _, Ep, rel1', q1, fun r2 μ2 v2 F2 H2 rel2 e2 rr2 q2 => ?_, fun x μ2 cls d F2 H2 rel2 e2 xr q2 => kx x μ2 cls d F2 H2 rel2 (eA.trans e2) xr q2⟩
  obtain ⟨F2', rel2', e2', rz2⟩ := settle rel2 rr2
  have eB := (eA.trans e2).trans e2'
  have rz1' := rz1.mono (e2.trans e2')
  cases d1 : r1.d <;> cases d2 : r2.d <;> rw [d1, d2] at q2 <;> first | exact q2.elim | skip
  rename_i i j
  refine ⟨i, j, rz1'.int d1, rz2.int d2, p i j, rfl, ?_⟩
  cases hp : p i j with
  | true =>
    simp only [hp] at q2
    refine ⟨env, μ2, F2', _, Ep, rel2', q2, fun r3 μ3 v3 F3 H3 rel3 e3 rr3 q3 => ?_, fun x μ2 cls d F2 H2 rel2 e2 xr q2 => kx x μ2 cls d F2 H2 rel2 (eB.trans e2) xr q2⟩
    obtain ⟨F3', rel3', e3', rz3⟩ := settle rel3 rr3
    cases d3 : r3.d <;> rw [d3] at q3 <;> first | exact q3.elim | skip
    rename_i m
    exact ⟨j, m, rz2.int d2, rz3.int d3, k (.fz _) μ3 _ F3' H3 rel3' ((eB.trans e3).trans e3') (.bl _) q3⟩
  | false =>
    simp only [hp] at q2
    exact k (.fz _) μ2 _ F2' H2 rel2' eB (.bl _) q2
theorem px_chain {op op' : CmpOp} {p q : Int → Int → Bool} (ho : OpR X (compareOp op) (rI0 fun i j => .bl (p i j))) (ho' : OpR X (compareOp op') (rI0 fun i j => .bl (q i j))) (ha : PX X f W a wa) (hb : PX X f W b wb) (hc : PX X f W cc wc)
    (hm : lastMarks [op, op'] [b, cc] = false := by with_unfolding_all rfl) : PX X f W (.Compare a [op, op'] [b, cc] pos) (wChain p q wa wb wc) := pe_imp (pe_chain ho ho' ha hb hc hm) chain_ok
theorem pxt_chain {op op' : CmpOp} {p q : Int → Int → Bool} (ho : OpR X (compareOp op) (rI0 fun i j => .bl (p i j))) (ho' : OpR X (compareOp op') (rI0 fun i j => .bl (q i j))) (ha : PX X f W a wa) (hb : PX X f W b wb) (hc : PX X f W cc wc)
    (hm : lastMarks [op, op'] [b, cc] = false := by with_unfolding_all rfl) : PXT X f W (.Compare a [op, op'] [b, cc] pos) (wVal (wChain p q wa wb wc)) := pt_imp (pt_chain ho ho' ha hb hc hm) fun σ H Q h => chain_ok σ H _ (lt_val h)
end
end PD
set_option Elab.async false
set_option linter.all false
set_option maxRecDepth 100000
set_option maxHeartbeats 2000000
/-! PD5: built-in calls; what is walked; list comprehensions. -/
namespace PD
open PySem PySem.Spec L2
section
variable {X : Cx} {f : Fm} {W : WX} {e a b cc : Expr} {es rest : List Expr} {wa wb wc w : WE} {wr : WA} {wt wt' wu : WT} {pos : Pos} {env : Ev} {μ : Mu} {σ : L2.St} {F H : Hp} {x : Str} {p : Pos}
/-! ### built-in calls of one thing -/
def CallD (f : Fm) (r : List V → Hp → VK → Prop) (g : D → (R → Prop) → Prop) : Prop :=
  ∀ (env : Ev) (μ : Mu) (σ : L2.St) (F : Hp) (H : Hp) (r1 : R) (v1 : V) (Q : VK) (Qp : R → Prop), Rel f env μ σ F H → RZ f env σ F v1 r1 → g r1.d Qp →
    (∀ r v F' H', Rel f env μ σ F' H' → Same F F' → RR f env μ σ F' H' v r → Qp r → Q v H') → r [v1] H Q
theorem lf_call {r : List V → Hp → VK → Prop} {g : D → (R → Prop) → Prop} (hg : CallD f r g) (σ : L2.St) (H : Hp) (Q : VK) (h : Lf f W (wUn g wa) σ H Q) : Lf f W wa σ H (fun v H1 => r [v] H1 Q) :=
  lf1k (g := fun r0 env μ0 Qp Ep => g r0.d fun r => Qp r μ0) (r := fun v σ H1 Q => r [v] H1 Q) (fun r0 v σ H Q ⟨env, μ, F, Qp, Ep, rel, rz, q, k, kx⟩ =>
    hg env μ σ F H r0 v Q _ rel rz q fun r v' F' H' rel' s' rr qq => k r μ v' F' H' rel' s' rr qq) σ H Q h
theorem px_callB {id : String} {r : List V → Hp → VK → Prop} {g : D → (R → Prop) → Prop} (hc : CallR X (.builtin id) r) (hg : CallD f r g) (gl : Gl X x) (hm : X.mg x = none) (hv : bootBuiltins x = some (.builtin id)) (ha : PX X f W a wa)
    (hn : x ≠ "__name__" := by decide) (hdb : (x == ("__debug__" : Str)) = false := by decide) (hs : starEach [a] X.env = (false, eval a X.env) :: starEach [] X.env := by rfl) (hpl : (backTo pos (starEach [] X.env)).any (·.1) = false := by rfl) :
    PX X f W (.Call (.Name x p) [a] [] pos) (wUn g wa) := pe_imp (pe_callB hc gl hm hv (pa_cons ha pa_nil hs) hn hdb hs hpl) fun σ H Q h => lf_call hg σ H Q h
theorem px_callTy {T : String} {r : List V → Hp → VK → Prop} {g : D → (R → Prop) → Prop} (hc : CallR X (.type T) r) (hg : CallD f r g) (gl : Gl X x) (hm : X.mg x = none) (hv : bootBuiltins x = some (.type T)) (ha : PX X f W a wa)
    (hn : x ≠ "__name__" := by decide) (hdb : (x == ("__debug__" : Str)) = false := by decide) (hs : starEach [a] X.env = (false, eval a X.env) :: starEach [] X.env := by rfl) (hpl : (backTo pos (starEach [] X.env)).any (·.1) = false := by rfl) :
    PX X f W (.Call (.Name x p) [a] [] pos) (wUn g wa) := pe_imp (pe_callTy hc gl hm hv (pa_cons ha pa_nil hs) hn hdb hs hpl) fun σ H Q h => lf_call hg σ H Q h
/-- len -/
def dLen (x : D) (Q : R → Prop) : Prop := match x with
  | .tup l => Q (.fz (.int l.length))
  | .lst l => Q (.fz (.int l.length))
  | .scr l => Q (.fz (.int l.length))
  | .str s => s.length ≤ sizeLine ∧ Q (.fz (.int s.length))
  | _ => False
theorem callD_len {K : PySem.W.Frag} (hK : K = f.c.K) : CallD f (fun xs H Q => ∃ x n, xs = [x] ∧ LenV K x H n ∧ Q (.int n) H) dLen := by
  subst hK
  intro env μ σ F H r1 v1 Q Qp rel rz h k
  cases e1 : r1.d <;> rw [e1] at h <;> first | exact h.elim | skip
  · rename_i s
    exact ⟨_, _, rfl, by rw [rz.str e1]; exact ⟨h.1, rfl⟩, k (.fz _) _ F H rel (Same.refl _) (.int _) h.2⟩
  · rename_i l
    obtain ⟨a, xs, rfl, g1, g2⟩ := rz.tup rel e1
    exact ⟨_, _, rfl, .inr ⟨xs, g1, rfl⟩, by rw [g2.len]; exact k (.fz _) _ F H rel (Same.refl _) (.int _) h⟩
  · rename_i l
    obtain ⟨a, xs, rfl, g1, g2⟩ := rz.lst rel e1
    exact ⟨_, _, rfl, .inl ⟨xs, SqL.of g1, rfl⟩, by rw [g2.len]; exact k (.fz _) _ F H rel (Same.refl _) (.int _) h⟩
  · rename_i l
    obtain ⟨a, rfl, g1, g2⟩ := rz_scr rz rel e1
    exact ⟨_, _, rfl, .inl ⟨_, rel.fh.seq g1, rfl⟩, by rw [List.length_map]; exact k (.fz _) _ F H rel (Same.refl _) (.int _) h⟩
theorem px_len (hK : X.K = f.c.K) (hm : X.mg "len" = none) (ha : PX X f W a wa) (gl : Gl X "len" := by rfl) (hs : starEach [a] X.env = (false, eval a X.env) :: starEach [] X.env := by rfl) (hpl : (backTo pos (starEach [] X.env)).any (·.1) = false := by rfl) :
    PX X f W (.Call (.Name "len" p) [a] [] pos) (wUn dLen wa) := px_callB call_len (callD_len hK) gl hm (by decide +kernel) ha (by decide) (by decide) hs hpl
/-- tuple -/
def dTuple (x : D) (Q : R → Prop) : Prop := match x with
  | .tup l => Q (.fz (.tup l))
  | .lst l => Q (.fz (.tup l))
  | _ => False
theorem callD_tuple {K : PySem.W.Frag} (hK : K = f.c.K) : CallD f (fun xs H Q => ∃ p ys, xs = [.ref p] ∧ ((SqL K H p ys ∧ ∀ l, H l = none → Q (.ref l) (upd H l (.tup ys))) ∨ (SqT K H p ys ∧ Q (.ref p) H))) dTuple := by
  subst hK
  intro env μ σ F H r1 v1 Q Qp rel rz h k
  cases e1 : r1.d <;> rw [e1] at h <;> first | exact h.elim | skip
  · rename_i l
    obtain ⟨a, xs, rfl, g1, g2⟩ := rz.tup rel e1
    refine ⟨a, xs, rfl, .inr ⟨g1, k (.fz (.tup l)) _ F H rel (Same.refl _) ?_ h⟩⟩
    have := rz.fz (fun i k e => by rw [e] at e1; cases k <;> cases e1)
    rw [e1] at this
    exact this
  · rename_i l
    obtain ⟨a, xs, rfl, g1, g2⟩ := rz.lst rel e1
    exact ⟨a, xs, rfl, .inl ⟨SqL.of g1, yield_tup rel g2 fun v F' H' r' s' rr => k _ v F' H' r' s' rr h⟩⟩
theorem px_tuple (hK : X.K = f.c.K) (hm : X.mg "tuple" = none) (ha : PX X f W a wa) (gl : Gl X "tuple" := by rfl) (hs : starEach [a] X.env = (false, eval a X.env) :: starEach [] X.env := by rfl) (hpl : (backTo pos (starEach [] X.env)).any (·.1) = false := by rfl) :
    PX X f W (.Call (.Name "tuple" p) [a] [] pos) (wUn dTuple wa) := px_callTy call_tuple_of (callD_tuple hK) gl hm (by decide +kernel) ha (by decide) (by decide) hs hpl
/-- list -/
def dList (x : D) (Q : R → Prop) : Prop := match x with
  | .tup l => Q (.fresh (.lst l))
  | .lst l => Q (.fresh (.lst l))
  | .scr l => Q (.fresh (.lst (l.map .int)))
  | _ => False
theorem callD_list {K : PySem.W.Frag} (hK : K = f.c.K) : CallD f (fun xs H Q => ∃ p ys, xs = [.ref p] ∧ (SqL K H p ys ∨ SqT K H p ys) ∧ ∀ l, H l = none → Q (.ref l) (upd H l (.lst ys))) dList := by
  subst hK
  intro env μ σ F H r1 v1 Q Qp rel rz h k
  cases e1 : r1.d <;> rw [e1] at h <;> first | exact h.elim | skip
  · rename_i l
    obtain ⟨a, xs, rfl, g1, g2⟩ := rz.tup rel e1
    exact ⟨a, xs, rfl, .inr g1, yield_lst rel g2 fun v F' H' r' s' rr => k _ v F' H' r' s' rr h⟩
  · rename_i l
    obtain ⟨a, xs, rfl, g1, g2⟩ := rz.lst rel e1
    exact ⟨a, xs, rfl, .inl (SqL.of g1), yield_lst rel g2 fun v F' H' r' s' rr => k _ v F' H' r' s' rr h⟩
  · rename_i l
    obtain ⟨a, rfl, g1, g2⟩ := rz_scr rz rel e1
    exact ⟨a, _, rfl, .inl (rel.fh.seq g1), yield_lst rel (Reps.ints l) fun v F' H' r' s' rr => k _ v F' H' r' s' rr h⟩
theorem px_list (hK : X.K = f.c.K) (hm : X.mg "list" = none) (ha : PX X f W a wa) (gl : Gl X "list" := by rfl) (hs : starEach [a] X.env = (false, eval a X.env) :: starEach [] X.env := by rfl) (hpl : (backTo pos (starEach [] X.env)).any (·.1) = false := by rfl) :
    PX X f W (.Call (.Name "list" p) [a] [] pos) (wUn dList wa) := px_callTy call_list_of (callD_list hK) gl hm (by decide +kernel) ha (by decide) (by decide) hs hpl
/-- all, any -/
def blsOf : List D → Option (List Bool)
  | [] => some []
  | .bl b :: l => (blsOf l).map (b :: ·)
  | _ :: _ => none
def dBls (g : List Bool → Bool) (x : D) (Q : R → Prop) : Prop := match x with
  | .lst l => match blsOf l with
    | some bs => Q (.fz (.bl (g bs)))
    | none => False
  | _ => False
theorem reps_bls {c : Cfg} : ∀ {l : List D} {xs : List V} {bs : List Bool}, Reps c F xs l → blsOf l = some bs → xs = bs.map V.bl
  | [], _, _, .nil, h => by
    cases h
    rfl
  | d :: l, _, bs, .cons a t, h => by
    cases d <;> first | (cases h; done) | skip
    rename_i b
    cases a
    have h' : (blsOf l).map (b :: ·) = some bs := h
    cases e : blsOf l with
    | none =>
      rw [e] at h'
      cases h'
    | some cs =>
      rw [e] at h'
      cases h'
      rw [reps_bls t e]
      rfl
theorem callD_all {K : PySem.W.Frag} (hK : K = f.c.K) : CallD f (rAll K) (dBls fun bs => bs.all id) := by
  subst hK
  intro env μ σ F H r1 v1 Q Qp rel rz h k
  cases e1 : r1.d <;> rw [e1] at h <;> first | exact h.elim | skip
  rename_i l
  obtain ⟨a, xs, rfl, g1, g2⟩ := rz.lst rel e1
  unfold dBls at h
  cases e2 : blsOf l with
  | none => simp only [e2] at h
  | some bs =>
    simp only [e2] at h
    exact ⟨a, bs, rfl, by rw [← reps_bls g2 e2]; exact SqL.of g1, k (.fz _) _ F H rel (Same.refl _) (.bl _) h⟩
theorem callD_any {K : PySem.W.Frag} (hK : K = f.c.K) : CallD f (rAny K) (dBls fun bs => bs.any id) := by
  subst hK
  intro env μ σ F H r1 v1 Q Qp rel rz h k
  cases e1 : r1.d <;> rw [e1] at h <;> first | exact h.elim | skip
  rename_i l
  obtain ⟨a, xs, rfl, g1, g2⟩ := rz.lst rel e1
  unfold dBls at h
  cases e2 : blsOf l with
  | none => simp only [e2] at h
  | some bs =>
    simp only [e2] at h
    exact ⟨a, bs, rfl, by rw [← reps_bls g2 e2]; exact SqL.of g1, k (.fz _) _ F H rel (Same.refl _) (.bl _) h⟩
theorem px_all (hK : X.K = f.c.K) (hc : X.calm = true) (hm : X.mg "all" = none) (ha : PX X f W a wa) (gl : Gl X "all" := by rfl) (hs : starEach [a] X.env = (false, eval a X.env) :: starEach [] X.env := by rfl) (hpl : (backTo pos (starEach [] X.env)).any (·.1) = false := by rfl) :
    PX X f W (.Call (.Name "all" p) [a] [] pos) (wUn (dBls fun bs => bs.all id) wa) := px_callB (cr_all hc) (callD_all hK) gl hm (by decide +kernel) ha (by decide) (by decide) hs hpl
theorem px_any (hK : X.K = f.c.K) (hc : X.calm = true) (hm : X.mg "any" = none) (ha : PX X f W a wa) (gl : Gl X "any" := by rfl) (hs : starEach [a] X.env = (false, eval a X.env) :: starEach [] X.env := by rfl) (hpl : (backTo pos (starEach [] X.env)).any (·.1) = false := by rfl) :
    PX X f W (.Call (.Name "any" p) [a] [] pos) (wUn (dBls fun bs => bs.any id) wa) := px_callB (cr_any hc) (callD_any hK) gl hm (by decide +kernel) ha (by decide) (by decide) hs hpl
/-- int of a number or a truth value -/
def dInt (x : D) (Q : R → Prop) : Prop := match x with
  | .int i => Q (.fz (.int i))
  | .bl b => Q (.fz (.int (if b then 1 else 0)))
  | _ => False
theorem px_intOf (hm : X.mg "int" = none) (ha : PX X f W a wa) (gl : Gl X "int" := by rfl) (hs : starEach [a] X.env = (false, eval a X.env) :: starEach [] X.env := by rfl) (hpl : (backTo pos (starEach [] X.env)).any (·.1) = false := by rfl) :
    PX X f W (.Call (.Name "int" p) [a] [] pos) (wUn dInt wa) := px_callTy call_int1 (fun env μ σ F H r1 v1 Q Qp rel rz h k => by
  cases e1 : r1.d <;> rw [e1] at h <;> first | exact h.elim | skip
  · exact .inr ⟨_, by rw [rz.bl e1], k (.fz _) _ F H rel (Same.refl _) (.int _) h⟩
  · exact .inl ⟨_, by rw [rz.int e1], k (.fz _) _ F H rel (Same.refl _) (.int _) h⟩) gl hm (by decide +kernel) ha (by decide) (by decide) hs hpl
/-- abs -/
def dAbs (x : D) (Q : R → Prop) : Prop := match x with
  | .int i => Q (.fz (.int (if i < 0 then -i else i)))
  | _ => False
theorem px_abs (hm : X.mg "abs" = none) (ha : PX X f W a wa) (gl : Gl X "abs" := by rfl) (hs : starEach [a] X.env = (false, eval a X.env) :: starEach [] X.env := by rfl) (hpl : (backTo pos (starEach [] X.env)).any (·.1) = false := by rfl) :
    PX X f W (.Call (.Name "abs" p) [a] [] pos) (wUn dAbs wa) := px_callB call_abs (fun env μ σ F H r1 v1 Q Qp rel rz h k => by
  cases e1 : r1.d <;> rw [e1] at h <;> first | exact h.elim | skip
  exact ⟨_, by rw [rz.int e1], k (.fz _) _ F H rel (Same.refl _) (.int _) h⟩) gl hm (by decide +kernel) ha (by decide) (by decide) hs hpl
/-- max, min of two whole numbers -/
def CallD2 (f : Fm) (r : List V → Hp → VK → Prop) (g : D → D → (R → Prop) → Prop) : Prop :=
  ∀ (env : Ev) (μ : Mu) (σ : L2.St) (F : Hp) (H : Hp) (r1 r2 : R) (v1 v2 : V) (Q : VK) (Qp : R → Prop), Rel f env μ σ F H → RZ f env σ F v1 r1 → RZ f env σ F v2 r2 → g r1.d r2.d Qp →
    (∀ r v F' H', Rel f env μ σ F' H' → Same F F' → RR f env μ σ F' H' v r → Qp r → Q v H') → r [v1, v2] H Q
theorem px_callB2 {id : String} {r : List V → Hp → VK → Prop} {g : D → D → (R → Prop) → Prop} (hc : CallR X (.builtin id) r) (hg : CallD2 f r g) (gl : Gl X x) (hm : X.mg x = none) (hv : bootBuiltins x = some (.builtin id)) (ha : PX X f W a wa) (hb : PX X f W b wb)
    (hn : x ≠ "__name__" := by decide) (hdb : (x == ("__debug__" : Str)) = false := by decide) (hs : starEach [a, b] X.env = (false, eval a X.env) :: starEach [b] X.env := by rfl) (hs2 : starEach [b] X.env = (false, eval b X.env) :: starEach [] X.env := by rfl)
    (hpl : (backTo pos (starEach [b] X.env)).any (·.1) = false := by rfl) :
    PX X f W (.Call (.Name x p) [a, b] [] pos) (wBin g wa wb) := pe_imp (pe_callB hc gl hm hv (pa_cons ha (pa_cons hb pa_nil hs2) hs) hn hdb hs hpl) fun σ H Q h =>
  lf2 (g := fun r1 r2 env μ Qp Ep => g r1.d r2.d fun r => Qp r μ) (r := fun v1 v2 H Q => r [v1, v2] H Q) (fun env μ σ F H r1 r2 v1 v2 Q Qp Ep rel z1 z2 hgg k kx =>
    hg env μ σ F H r1 r2 v1 v2 Q _ rel z1 z2 hgg fun r v F' H' rel' e' rr q => k r μ v F' H' rel' e' rr q) σ H Q h
abbrev dMax := d2I (fun _ _ => True) fun i j => D.int (if j > i then j else i)
abbrev dMin := d2I (fun _ _ => True) fun i j => D.int (if j < i then j else i)
theorem px_max (hc : X.calm = true) (hm : X.mg "max" = none) (ha : PX X f W a wa) (hb : PX X f W b wb) (gl : Gl X "max" := by rfl) (hs : starEach [a, b] X.env = (false, eval a X.env) :: starEach [b] X.env := by rfl) (hs2 : starEach [b] X.env = (false, eval b X.env) :: starEach [] X.env := by rfl)
    (hpl : (backTo pos (starEach [b] X.env)).any (·.1) = false := by rfl) : PX X f W (.Call (.Name "max" p) [a, b] [] pos) (wBin dMax wa wb) := px_callB2 (call_max2 hc) (fun env μ σ F H r1 r2 v1 v2 Q Qp rel z1 z2 h k => by
  cases e1 : r1.d <;> cases e2 : r2.d <;> rw [e1, e2] at h <;> first | exact h.elim | skip
  exact ⟨_, _, by rw [z1.int e1, z2.int e2], k (.fz _) _ F H rel (Same.refl _) (.int _) h.2⟩) gl hm (by decide +kernel) ha hb (by decide) (by decide) hs hs2 hpl
theorem px_min (hc : X.calm = true) (hm : X.mg "min" = none) (ha : PX X f W a wa) (hb : PX X f W b wb) (gl : Gl X "min" := by rfl) (hs : starEach [a, b] X.env = (false, eval a X.env) :: starEach [b] X.env := by rfl) (hs2 : starEach [b] X.env = (false, eval b X.env) :: starEach [] X.env := by rfl)
    (hpl : (backTo pos (starEach [b] X.env)).any (·.1) = false := by rfl) : PX X f W (.Call (.Name "min" p) [a, b] [] pos) (wBin dMin wa wb) := px_callB2 (call_min2 hc) (fun env μ σ F H r1 r2 v1 v2 Q Qp rel z1 z2 h k => by
  cases e1 : r1.d <;> cases e2 : r2.d <;> rw [e1, e2] at h <;> first | exact h.elim | skip
  exact ⟨_, _, by rw [z1.int e1, z2.int e2], k (.fz _) _ F H rel (Same.refl _) (.int _) h.2⟩) gl hm (by decide +kernel) ha hb (by decide) (by decide) hs hs2 hpl
/-! ### isinstance of the built-in kinds -/
def D.ty : D → Option String
  | .non => some "NoneType"
  | .bl _ => some "bool"
  | .int _ => some "int"
  | .str _ => some "str"
  | .tup _ => some "tuple"
  | .lst _ => some "list"
  | .scr _ => some "list"
  | .dic _ _ => some "dict"
  | _ => none
theorem rep_ty {c : Cfg} {d : D} {v : V} {t : String} (h : Rep c H v d) (e : d.ty = some t) : TyX c.K H v (.type t) := by
  cases h with
  | non => cases e; exact .base .non
  | bl b => cases e; exact .base (.bl b)
  | int b => cases e; exact .base (.int b)
  | str b => cases e; exact .base (.str b)
  | tup s r =>
    cases e
    exact .base (.tup s)
  | lst s r => cases e; exact .base (.lst s)
  | dic s r => cases e; exact .base (.dK s)
  | dct s r => cases e
  | ins _ _ _ _ => cases e
  | hnd a => cases e
  | scr s z =>
    cases e
    rcases s with (s | ⟨o, s⟩) | ⟨o, its, n, s, cl, _⟩
    · exact .base (.lst s)
    · exact .base (.frz s)
    · exact .kList s cl
  | exc _ _ _ => cases e
/-- g: the answer by kind -/
def dIsi (g : String → Bool) (x : D) (Q : R → Prop) : Prop := match x.ty with
  | some t => Q (.fz (.bl (g t)))
  | none => False
def kinds : List String := ["NoneType", "bool", "int", "str", "tuple", "list", "dict"]
theorem ty_kinds {d : D} {t : String} (h : d.ty = some t) : t ∈ kinds := by
  cases d <;> simp [D.ty] at h <;> subst h <;> decide
theorem px_isi {T : Str} {n : String} {g : String → Bool} {pn : Pos} (hK : X.K = f.c.K) (hm : X.mg "isinstance" = none) (hT : X.mg T = none) (hv : bootBuiltins T = some (.type n)) (hg : ∀ t ∈ kinds, kitB t n = some (g t)) (ha : PX X f W a wa) (gl : Gl X "isinstance" := by rfl) (gT : Gl X T := by rfl)
    (hn : T ≠ "__name__" := by decide) (hdT : (T == ("__debug__" : Str)) = false := by decide) (hs : starEach [a, .Name T pn] X.env = (false, eval a X.env) :: starEach [.Name T pn] X.env := by rfl) (hs2 : starEach [.Name T pn] X.env = (false, eval (.Name T pn) X.env) :: starEach [] X.env := by rfl)
    (hpl : (backTo pos (starEach [.Name T pn] X.env)).any (·.1) = false := by rfl) : PX X f W (.Call (.Name "isinstance" p) [a, .Name T pn] [] pos) (wUn (dIsi g) wa) :=
  pe_imp (pe_callB call_isi gl hm (by decide +kernel) (pa_cons ha (pa_cons (pe_bltn (v := .ty n) gT hT hv rfl hn hdT) pa_nil hs2) hs) (by decide) (by decide) hs hpl) fun σ H Q h =>
    lf1k (g := fun r0 env μ0 Qp Ep => dIsi g r0.d fun r => Qp r μ0) (r := fun v σ H1 Q => rIsi X.K [v, .ty n] H1 Q) (fun r0 v σ H Q ⟨env, μ, F, Qp, Ep, rel, rz, q, k, kx⟩ => by
      unfold dIsi at q
      cases e : r0.d.ty with
      | none => simp only [e] at q
      | some t =>
        simp only [e] at q
        exact ⟨v, .ty n, .type t, .type n, g t, rfl, .ty n, by rw [hK]; exact rep_ty (rz.rep rel) e, kit_ty (hg t (ty_kinds e)), k (.fz _) μ _ F H rel (Same.refl _) (.bl _) q⟩) σ H Q h
end
end PD
set_option Elab.async false
set_option linter.all false
set_option maxRecDepth 100000
set_option maxHeartbeats 2000000
/-! PD6: slots set; targets; what is walked; for, comprehensions. -/
namespace PD
open PySem PySem.Spec L2
section
variable {f : Fm} {env : Ev} {μ : Mu} {σ : L2.St} {F H : Hp} {i : Nat} {v : V} {d : D}
theorem set_get {α : Type} {l : List α} {i j : Nat} {x y : α} (h : (l.set i x)[j]? = some y) : (j = i ∧ y = x) ∨ (j ≠ i ∧ l[j]? = some y) := by
  by_cases e : j = i
  · subst e
    by_cases q : j < l.length
    · rw [List.getElem?_set_self q] at h
      exact .inl ⟨rfl, (Option.some.inj h).symm⟩
    · rw [List.getElem?_eq_none_iff.mpr (by rw [List.length_set]; omega)] at h
      cases h
  · rw [List.getElem?_set_ne (fun z => e z.symm)] at h
    exact .inr ⟨e, h⟩
theorem set_at {α : Type} {l : List α} {i j : Nat} {x : α} (e : j ≠ i) : (l.set i x)[j]? = l[j]? := List.getElem?_set_ne (fun z => e z.symm)
/-- slot i is given a still value -/
theorem Rel.setVal (q : Rel f env μ σ F H) (h : Rep f.c F v d) : Rel f (env.set i (some (.val d))) μ (σ.set i (some v)) F H :=
  { q.toFit with
    len := by rw [List.length_set, List.length_set, q.len]
    dj := fun j j' k k' a h1 h2 h3 h4 => by
      rcases set_get h1 with ⟨rfl, z⟩ | ⟨n1, h1⟩
      · cases z
      · rcases set_get h2 with ⟨rfl, z⟩ | ⟨n2, h2⟩
        · cases z
        · rw [set_at n1] at h3
          rw [set_at n2] at h4
          exact q.dj j j' k k' a h1 h2 h3 h4
    sl := fun j sv hj => by
      rcases set_get hj with ⟨rfl, z⟩ | ⟨n1, h1⟩
      · cases z
        have hl : j < σ.length := by
          have := (List.getElem?_eq_some_iff.mp hj).1
          rw [List.length_set, q.len] at this
          exact this
        exact ⟨v, List.getElem?_set_self hl, h⟩
      · rw [set_at n1]
        exact q.sl j sv h1 }
/-- slot i is given what no one else holds -/
theorem Rel.setOwn {k : Cont} {a : Addr} (q : Rel f env μ σ F H) (nf : F a = none) (nb : f.B a = none) (nm : μ a = none) (no : ∀ (i : Nat) (k' : Cont), env[i]? = some (some (.own k')) → σ[i]? ≠ some (some (.ref a))) (h : ContAt f.c F H a k) :
    Rel f (env.set i (some (.own k))) μ (σ.set i (some (.ref a))) F H :=
  { q.toFit with
    len := by rw [List.length_set, List.length_set, q.len]
    dj := fun j j' k1 k2 a' h1 h2 h3 h4 => by
      by_cases e1 : j = i
      · by_cases e2 : j' = i
        · rw [e1, e2]
        · rw [set_at e2] at h2 h4
          rcases set_get h3 with ⟨_, z3⟩ | ⟨z3, _⟩
          · cases z3
            exact absurd h4 (no j' k2 h2)
          · exact absurd e1 z3
      · rw [set_at e1] at h1 h3
        by_cases e2 : j' = i
        · rcases set_get h4 with ⟨_, z4⟩ | ⟨z4, _⟩
          · cases z4
            exact absurd h3 (no j k1 h1)
          · exact absurd e2 z4
        · rw [set_at e2] at h2 h4
          exact q.dj j j' k1 k2 a' h1 h2 h3 h4
    sl := fun j sv hj => by
      rcases set_get hj with ⟨rfl, z⟩ | ⟨n1, h1⟩
      · cases z
        have hl : j < σ.length := by
          have := (List.getElem?_eq_some_iff.mp hj).1
          rw [List.length_set, q.len] at this
          exact this
        exact ⟨a, List.getElem?_set_self hl, nf, nb, nm, h⟩
      · rw [set_at n1]
        exact q.sl j sv h1 }
/-- slot i is forgotten -/
theorem Rel.forget {o : Option V} (q : Rel f env μ σ F H) : Rel f (env.set i none) μ (σ.set i o) F H :=
  { q.toFit with
    len := by rw [List.length_set, List.length_set, q.len]
    dj := fun j j' k k' a h1 h2 h3 h4 => by
      rcases set_get h1 with ⟨rfl, z⟩ | ⟨n1, h1⟩
      · cases z
      · rcases set_get h2 with ⟨rfl, z⟩ | ⟨n2, h2⟩
        · cases z
        · rw [set_at n1] at h3
          rw [set_at n2] at h4
          exact q.dj j j' k k' a h1 h2 h3 h4
    sl := fun j sv hj => by
      rcases set_get hj with ⟨rfl, z⟩ | ⟨n1, h1⟩
      · cases z
      · rw [set_at n1]
        exact q.sl j sv h1 }
/-- what one slot alone holds is laid still -/
theorem Rel.freeze {k : Cont} (q : Rel f env μ σ F H) (h : env[i]? = some (some (.own k))) : ∃ F', Rel f (env.set i (some (.val k.d))) μ σ F' H ∧ Same F F' := by
  obtain ⟨a, h1, nf, nb, nm, hc⟩ := q.sl i _ h
  obtain ⟨o, ho, nt, hr⟩ := hc.still nf
  have q1 : Rel f (env.set i none) μ (σ.set i (some (.ref a))) F H := q.forget
  have es : σ.set i (some (.ref a)) = σ := by
    apply List.ext_getElem?
    intro j
    by_cases e : j = i
    · subst e
      rw [List.getElem?_set_self (List.getElem?_eq_some_iff.mp h1).1, h1]
    · rw [set_at e]
  rw [es] at q1
  have q2 := q1.still ho nf nb nm nt (fun j k' hj z => by
    rcases set_get hj with ⟨rfl, z2⟩ | ⟨n1, hj⟩
    · cases z2
    · exact n1 (q.dj j i k' k a hj h z h1))
  have q3 := q2.setVal (i := i) (v := .ref a) hr
  rw [es, List.set_set] at q3
  exact ⟨_, q3, same_upd nf⟩
def wipeE (env : Ev) : List Nat → Ev
  | [] => env
  | v :: vs => (wipeE env vs).set v none
theorem Rel.wiped (q : Rel f env μ σ F H) : ∀ vs : List Nat, Rel f (wipeE env vs) μ (wipe σ vs) F H
  | [] => q
  | v :: vs => (Rel.wiped q vs).forget
theorem wipe_same {σ σ' : L2.St} (hl : σ'.length = σ.length) : ∀ {vs : List Nat}, (∀ i, i ∉ vs → σ'[i]? = σ[i]?) → wipe σ' vs = wipe σ vs := fun {vs} h => by
  apply List.ext_getElem?
  intro j
  have key : ∀ (τ : L2.St) (ws : List Nat), j ∈ ws → (wipe τ ws)[j]? = if j < τ.length then some none else none := by
    intro τ ws
    induction ws with
    | nil => intro hj; cases hj
    | cons w ws ih =>
      intro hj
      show ((wipe τ ws).set w none)[j]? = _
      by_cases e : j = w
      · subst e
        by_cases hlt : j < τ.length
        · rw [List.getElem?_set_self (by rw [wipe_length]; exact hlt), if_pos hlt]
        · rw [List.getElem?_eq_none_iff.mpr (by rw [List.length_set, wipe_length]; omega), if_neg hlt]
      · rw [set_at e]
        exact ih ((List.mem_cons.mp hj).resolve_left e)
  by_cases hj : j ∈ vs
  · rw [key σ' vs hj, key σ vs hj, hl]
  · have out : ∀ τ : L2.St, (wipe τ vs)[j]? = τ[j]? := fun τ => by
      clear h key
      induction vs with
      | nil => rfl
      | cons w ws ih =>
        show ((wipe τ ws).set w none)[j]? = _
        rw [set_at (fun e => hj (by rw [e]; exact List.mem_cons_self))]
        exact ih (fun z => hj (List.mem_cons_of_mem _ z))
    rw [out, out]
    exact h j hj
theorem wipe_wipe (σ : L2.St) (vs : List Nat) : wipe (wipe σ vs) vs = wipe σ vs := by
  refine wipe_same (wipe_length _ _) fun i hi => ?_
  induction vs with
  | nil => rfl
  | cons w ws ih =>
    show ((wipe σ ws).set w none)[i]? = _
    rw [set_at (fun e => hi (by rw [e]; exact List.mem_cons_self))]
    exact ih (fun z => hi (List.mem_cons_of_mem _ z))
/-- an object that is no one's is changed -/
theorem Fit.write {a : Addr} {o o' : HO} (r : Fit f μ F H) (ho : H a = some o) (nt : (∀ ps, o ≠ .tbl ps) ∧ ∀ φ, o ≠ .ext φ) (nf : F a = none) (nb : f.B a = none) (nm : μ a = none) : Fit f μ F (upd H a o') where
  bh := fun b u hb => by
    rw [upd_ne (fun e => by rw [e, nb] at hb; cases hb)]
    exact r.bh b u hb
  bn := r.bn
  f0 := r.f0
  fh := fun b u h => by
    rw [upd_ne (ne_of_none h nf)]
    exact r.fh b u h
  fb := r.fb
  ft := r.ft
  mu := fun b m h => by
    obtain ⟨h1, h2, h3⟩ := r.mu b m h
    have e : b ≠ a := fun e => by
      rw [e, nm] at h
      cases h
    exact ⟨h1, h2, h3.stay (Same.refl _) fun u q => by rw [upd_ne e]; exact q⟩
  tb := fun p hp => by
    obtain ⟨ps, h1, h2, h3⟩ := r.tb p hp
    have ne : ∀ {b : Addr} {u : HO}, H b = some u → b = a → u = o := fun {b u} h e => by
      rw [e, ho] at h
      exact (Option.some.inj h).symm
    refine ⟨ps, by rw [upd_ne (fun e => nt.1 ps (ne h1 e).symm)]; exact h1, h2, fun pos cv hcv => ?_⟩
    obtain ⟨c', e1, e2⟩ := h3 pos cv hcv
    refine ⟨c', e1, ?_⟩
    rw [upd_ne (fun e => nt.2 _ (ne e2 e).symm)]
    exact e2
end
end PD
set_option Elab.async false
set_option linter.all false
set_option maxRecDepth 100000
set_option maxHeartbeats 2000000
/-! PD7: targets, walks, loops, comprehensions, plain statements. -/
namespace PD
open PySem PySem.Spec L2
section
variable {X : Cx} {f : Fm} {W : WX} {e a b cc tg iter : Expr} {es rest : List Expr} {wa wb wc w : WE} {wr : WA} {wt wt' wu : WT} {pos : Pos} {env : Ev} {μ : Mu} {σ : L2.St} {F F' H : Hp} {x : Str} {p : Pos} {st : Stmt} {ss : List Stmt} {ws ws' : WS} {n : En} {Dn : Ends}
theorem EnOk.mono (h : EnOk f W F n Dn) (s : Same F F') : EnOk f W F' n Dn :=
  ⟨fun env' μ' σ' F2 H' r e q => h.nx env' μ' σ' F2 H' r (s.trans e) q, fun env' μ' σ' F2 H' r e q => h.bk env' μ' σ' F2 H' r (s.trans e) q, fun env' μ' σ' F2 H' r e q => h.ct env' μ' σ' F2 H' r (s.trans e) q,
    fun r env' μ' σ' v F2 H' r' e rr q => h.rt r env' μ' σ' v F2 H' r' (s.trans e) rr q, fun x env' μ' σ' cls d F2 H' r' e xr q => h.ex x env' μ' σ' cls d F2 H' r' (s.trans e) xr q⟩
/-! ### blocks -/
def wNext : WS := fun n env μ => n.nx env μ
def wSeq (w u : WS) : WS := fun n env μ => w { n with nx := u n } env μ
theorem pxs_nil : PXSs X f W [] wNext := pss_imp pss_nil fun D σ H h => by
  obtain ⟨env, μ, F, n, rel, hw, ok⟩ := h
  exact ok.nx env μ σ F H rel (Same.refl _) hw
theorem pxs_cons (h1 : PXS X f W st ws) (h2 : PXSs X f W ss ws') : PXSs X f W (st :: ss) (wSeq ws ws') := pss_imp (pss_cons h1 h2) fun D σ H h => by
  obtain ⟨env, μ, F, n, rel, hw, ok⟩ := h
  refine ⟨env, μ, F, { n with nx := ws' n }, rel, hw, ?_⟩
  exact { ok with nx := fun env' μ' σ' F' H' r s q => ⟨env', μ', F', n, r, q, ok.mono s⟩ }
theorem pss_single {t : TS} (h : PS X st t) : PSs X [st] t := pss_one h
theorem pxs_one (h : PXS X f W st ws) : PXSs X f W [st] ws := pss_one h
theorem px_pass : PXS X f W (.Pass pos) wNext := ps_imp ps_pass fun D σ H h => by
  obtain ⟨env, μ, F, n, rel, hw, ok⟩ := h
  exact ok.nx env μ σ F H rel (Same.refl _) hw
def wBrk : WS := fun n env μ => n.bk env μ
def wCnt : WS := fun n env μ => n.ct env μ
theorem px_break : PXS X f W (.Break pos) wBrk := ps_imp ps_break fun D σ H h => by
  obtain ⟨env, μ, F, n, rel, hw, ok⟩ := h
  exact ok.bk env μ σ F H rel (Same.refl _) hw
theorem px_continue : PXS X f W (.Continue pos) wCnt := ps_imp ps_continue fun D σ H h => by
  obtain ⟨env, μ, F, n, rel, hw, ok⟩ := h
  exact ok.ct env μ σ F H rel (Same.refl _) hw
/-! ### x = e -/
def wAsg (i : Nat) (wa : WE) : WS := fun n env μ => wa env μ (fun r μ1 => r.still fun d => n.nx (env.set i (some (.val d))) μ1) n.ex
def wAsgO (i : Nat) (wa : WE) : WS := fun n env μ => wa env μ (fun r μ1 => match r with
  | .fresh k => n.nx (env.set i (some (.own k))) μ1
  | _ => False) n.ex
theorem asg_ok {i : Nat} {D : Ends} (h : Ls f W (wAsg i wa) D σ H) : tAsg (Lf f W wa) (gName i) D σ H := by
  obtain ⟨env, μ, F, n, rel, hw, ok⟩ := h
  refine ⟨env, μ, F, _, _, rel, hw, fun r1 μ1 v1 F1 H1 rel1 e1 rr1 q1 => ?_, fun x μ2 cls d F2 H2 rel2 e2 xr q2 => ok.ex x env μ2 σ cls d F2 H2 rel2 e2 xr q2⟩
  obtain ⟨F1', rel1', e1', rz1⟩ := settle rel1 rr1
  obtain ⟨s1, q1'⟩ := still_ok rz1 q1
  exact ok.nx _ μ1 _ F1' H1 (rel1'.setVal s1) (e1.trans e1') q1'
theorem asgO_ok {i : Nat} {D : Ends} (h : Ls f W (wAsgO i wa) D σ H) : tAsg (Lf f W wa) (gName i) D σ H := by
  obtain ⟨env, μ, F, n, rel, hw, ok⟩ := h
  refine ⟨env, μ, F, _, _, rel, hw, fun r1 μ1 v1 F1 H1 rel1 e1 rr1 q1 => ?_, fun x μ2 cls d F2 H2 rel2 e2 xr q2 => ok.ex x env μ2 σ cls d F2 H2 rel2 e2 xr q2⟩
  cases r1 with
  | fz d => exact q1.elim
  | bor i k => exact q1.elim
  | fresh k =>
    obtain ⟨p, rfl, nf, nb, nm, no, hc⟩ := rr1
    exact ok.nx _ μ1 _ F1 H1 (rel1.setOwn nf nb nm no hc) e1 q1
theorem px_set {i : Nat} {pos' : Pos} (hN : X.N.Nodup) (hi : X.N[i]? = some x) (hx : Loc X.env.scope x) (he : PX X f W e wa) (hs : swapsWith e (some (.Name x pos')) pos.line X.env = pure false := by rfl)
    (hf : X.fn x = true ∨ X.env.scope.names.lookup x = some .local := by first | exact .inl rfl | exact .inr rfl) : PXS X f W (.Assign [.Name x pos'] e pos) (wAsg i wa) := ps_imp (ps_set hN hi hx he hs hf) fun D σ H h => asg_ok h
theorem px_setO {i : Nat} {pos' : Pos} (hN : X.N.Nodup) (hi : X.N[i]? = some x) (hx : Loc X.env.scope x) (he : PX X f W e wa) (hs : swapsWith e (some (.Name x pos')) pos.line X.env = pure false := by rfl)
    (hf : X.fn x = true ∨ X.env.scope.names.lookup x = some .local := by first | exact .inl rfl | exact .inr rfl) : PXS X f W (.Assign [.Name x pos'] e pos) (wAsgO i wa) := ps_imp (ps_set hN hi hx he hs hf) fun D σ H h => asgO_ok h
/-- what slot i alone holds is laid still, ahead of a statement -/
def wFrz (i : Nat) (w : WS) : WS := fun n env μ => match env[i]? with
  | some (some (.own k)) => w n (env.set i (some (.val k.d))) μ
  | _ => w n env μ
theorem px_frz (i : Nat) (h : PXS X f W st ws) : PXS X f W st (wFrz i ws) := ps_imp h fun D σ H h => by
  obtain ⟨env, μ, F, n, rel, hw, ok⟩ := h
  have same : ws n env μ → Ls f W ws D σ H := fun hw => ⟨env, μ, F, n, rel, hw, ok⟩
  unfold wFrz at hw
  cases q : env[i]? with
  | none =>
    simp only [q] at hw
    exact same hw
  | some o =>
    cases o with
    | none =>
      simp only [q] at hw
      exact same hw
    | some sv =>
      cases sv with
      | val d =>
        simp only [q] at hw
        exact same hw
      | own k =>
        simp only [q] at hw
        obtain ⟨F', rel', s'⟩ := rel.freeze q
        exact ⟨_, μ, F', n, rel', hw, ok.mono s'⟩
/-! ### return, an expression alone, if -/
def wRet (wa : WE) : WS := fun n env μ => wa env μ n.rt n.ex
def wRetN : WS := fun n _ μ => n.rt (.fz .non) μ
theorem px_ret (he : PX X f W e wa) : PXS X f W (.Return (some e) pos) (wRet wa) := ps_imp (ps_ret he) fun D σ H h => by
  obtain ⟨env, μ, F, n, rel, hw, ok⟩ := h
  exact ⟨env, μ, F, _, _, rel, hw, fun r1 μ1 v1 F1 H1 rel1 e1 rr1 q1 => ok.rt r1 env μ1 σ v1 F1 H1 rel1 e1 rr1 q1, fun x μ2 cls d F2 H2 rel2 e2 xr q2 => ok.ex x env μ2 σ cls d F2 H2 rel2 e2 xr q2⟩
theorem px_retN : PXS X f W (.Return none pos) wRetN := ps_imp ps_retN fun D σ H h => by
  obtain ⟨env, μ, F, n, rel, hw, ok⟩ := h
  exact ok.rt (.fz .non) env μ σ .non F H rel (Same.refl _) Rep.non hw
def wDrop (wa : WE) : WS := fun n env μ => wa env μ (fun _ μ1 => n.nx env μ1) n.ex
theorem px_expr (he : PX X f W e wa) (hs : swapsWith e none pos.line X.env = pure false := by rfl) : PXS X f W (.Expr e pos) (wDrop wa) := ps_imp (ps_expr he hs) fun D σ H h => by
  obtain ⟨env, μ, F, n, rel, hw, ok⟩ := h
  exact ⟨env, μ, F, _, _, rel, hw, fun r1 μ1 v1 F1 H1 rel1 e1 rr1 q1 => ok.nx env μ1 σ F1 H1 rel1 e1 q1, fun x μ2 cls d F2 H2 rel2 e2 xr q2 => ok.ex x env μ2 σ cls d F2 H2 rel2 e2 xr q2⟩
theorem px_doc {x j pos pos'} : PXS X f W (.Expr (.Constant (.str x) j pos) pos') wNext := ps_imp ps_doc fun D σ H h => by
  obtain ⟨env, μ, F, n, rel, hw, ok⟩ := h
  exact ok.nx env μ σ F H rel (Same.refl _) hw
def wIfS (wt : WT) (w u : WS) : WS := fun n env μ => wt env μ (fun b μ1 => if b = true then w n env μ1 else u n env μ1) n.ex
theorem px_ifS {c : Expr} {s1 s2 : List Stmt} (hc : PXT X f W c wt) (ha : PXSs X f W s1 ws) (hb : PXSs X f W s2 ws') : PXS X f W (.If c s1 s2 pos) (wIfS wt ws ws') := ps_imp (ps_if hc ha hb) fun D σ H h => by
  obtain ⟨env, μ, F, n, rel, hw, ok⟩ := h
  refine ⟨env, μ, F, _, _, rel, hw, fun b μ1 F1 H1 rel1 e1 q1 => ?_, fun x μ2 cls d F2 H2 rel2 e2 xr q2 => ok.ex x env μ2 σ cls d F2 H2 rel2 e2 xr q2⟩
  cases b with
  | true => exact ⟨env, μ1, F1, n, rel1, q1, ok.mono e1⟩
  | false => exact ⟨env, μ1, F1, n, rel1, q1, ok.mono e1⟩
/-! ### x op= e -/
def dIAdd (x y : D) (Q : R → Prop) : Prop := match x, y with
  | .int i, .int j => Q (.fz (.int (i + j)))
  | .str a, .str b => a.length + b.length ≤ sizeLine ∧ Q (.fz (.str (a ++ b)))
  | _, _ => False
def wAug (i : Nat) (g : D → D → (R → Prop) → Prop) (wb : WE) : WS := fun n env μ => match env[i]? with
  | some (some (.val d)) => wb env μ (fun r μ1 => g d r.d fun r' => r'.still fun d' => n.nx (env.set i (some (.val d'))) μ1) n.ex
  | _ => False
theorem px_aug {i : Nat} {op : Operator} {r : R2} {g : D → D → (R → Prop) → Prop} {pos' : Pos} (ho : OpR X (inplaceOp op) r) (hg : OpD X f r g) (hK : X.K = f.c.K) (hN : X.N.Nodup) (hi : X.N[i]? = some x) (hx : Loc X.env.scope x) (he : PX X f W e wb)
    (hf : X.fn x = true ∨ X.env.scope.names.lookup x = some .local := by first | exact .inl rfl | exact .inr rfl) : PXS X f W (.AugAssign (.Name x pos') op e pos) (wAug i g wb) :=
  ps_imp (ps_aug hN hi hx he (fun pins s σ H x y v u Q I rx ry h => ho pins s σ H x y v u Q I rx ry h) hf) fun D σ H h => by
    obtain ⟨env, μ, F, n, rel, hw, ok⟩ := h
    unfold wAug at hw
    split at hw
    · rename_i d hd
      obtain ⟨v, h1, h2⟩ := rel.sl i _ hd
      refine ⟨v, h1, env, μ, F, _, _, rel, hw, fun r1 μ1 v1 F1 H1 rel1 e1 rr1 q1 => ?_, fun x μ2 cls d F2 H2 rel2 e2 xr q2 => ok.ex x env μ2 σ cls d F2 H2 rel2 e2 xr q2⟩
      obtain ⟨F1', rel1', e1', rz1⟩ := settle rel1 rr1
      refine hg env μ1 σ F1' H1 (.fz d) r1 v v1 _ _ hK rel1' (Rep.mono (e1.trans e1') _ _ h2) rz1 q1 fun r2 v2 F2 H2 rel2 e2 rr2 q2 => ?_
      obtain ⟨F2', rel2', e2', rz2⟩ := settle rel2 rr2
      obtain ⟨s2, q2'⟩ := still_ok rz2 q2
      exact ok.nx _ μ1 _ F2' H2 (rel2'.setVal s2) (((e1.trans e1').trans e2).trans e2') q2'
    · exact hw.elim
def rIAddV : R2 := fun x y H Q => rI0 (fun i j => .int (i + j)) x y H Q ∨ (∃ i j, x = .str i ∧ y = .str j ∧ i.length + j.length ≤ sizeLine ∧ Q (.str (i ++ j)) H)
theorem opD_iadd : OpD X f rIAddV dIAdd := by
  intro env μ σ F H r1 r2 v1 v2 Q Qp hK rel z1 z2 h k
  cases e1 : r1.d <;> cases e2 : r2.d <;> rw [e1, e2] at h <;> first | exact h.elim | skip
  · rename_i i j
    exact .inl ⟨i, j, z1.int e1, z2.int e2, k (.fz _) _ F H rel (Same.refl _) (.int _) h⟩
  · rename_i i j
    exact .inr ⟨i, j, z1.str e1, z2.str e2, h.1, k (.fz _) _ F H rel (Same.refl _) (.str _) h.2⟩
theorem op_iaddV : OpR X (inplaceOp .Add) rIAddV := iop_add.or iop_add_str
abbrev dIMul := d2I (fun i j => CMul i j) fun i j => D.int (i * j)
/-! ### targets -/
abbrev WG := D → Ev → (Ev → Prop) → Prop
def Lg (f : Fm) (w : WG) (gs : List Nat) : TG := fun v σ H Q => ∃ env μ F d Qp, Rel f env μ σ F H ∧ Rep f.c F v d ∧ w d env Qp ∧
  ∀ env' σ', Rel f env' μ σ' F H → σ'.length = σ.length → (∀ i, i ∉ gs → σ'[i]? = σ[i]? ∧ env'[i]? = env[i]?) → Qp env' → Q σ' H
abbrev PXG (X : Cx) (f : Fm) (tg : Expr) (w : WG) (gs : List Nat) : Prop := PG X tg (Lg f w gs)
theorem pg_imp {t t' : TG} (h : PG X tg t) (i : ∀ v σ H Q, t' v σ H Q → t v σ H Q) : PG X tg t' := ⟨fun pins s σ H v u Q I r q => h.run pins s σ H v u Q I r (i _ _ _ _ q)⟩
def gNm (i : Nat) : WG := fun d env k => k (env.set i (some (.val d)))
theorem px_gnm {i : Nat} (hN : X.N.Nodup) (hi : X.N[i]? = some x) (hx : Loc X.env.scope x) (hf : X.fn x = true ∨ X.env.scope.names.lookup x = some .local := by first | exact .inl rfl | exact .inr rfl | assumption) : PXG X f (.Name x pos) (gNm i) [i] := pg_imp (pg_name hN hi hx hf) fun v σ H Q h => by
  obtain ⟨env, μ, F, d, Qp, rel, rd, hw, k⟩ := h
  exact k _ _ (rel.setVal rd) (List.length_set ..) (fun j hj => have n : j ≠ i := fun z => hj (by rw [z]; exact List.mem_singleton.mpr rfl); ⟨set_at n, set_at n⟩) hw
abbrev WGs := List D → Ev → (Ev → Prop) → Prop
def Lgs (f : Fm) (w : WGs) (gs : List Nat) : TGs := fun vs σ H Q => ∃ env μ F ds Qp, Rel f env μ σ F H ∧ Reps f.c F vs ds ∧ w ds env Qp ∧
  ∀ env' σ', Rel f env' μ σ' F H → σ'.length = σ.length → (∀ i, i ∉ gs → σ'[i]? = σ[i]? ∧ env'[i]? = env[i]?) → Qp env' → Q σ' H
def gsNil : WGs := fun ds env k => match ds with
  | [] => k env
  | _ => False
def gsCons (w : WG) (u : WGs) : WGs := fun ds env k => match ds with
  | d :: r => w d env fun env' => u r env' k
  | [] => False
def gTp (n : Nat) (w : WGs) : WG := fun d env k => match d with
  | .tup l => l.length = n ∧ w l env k
  | _ => False
/-- .. of a tuple or a list -/
def gSq (n : Nat) (w : WGs) : WG := fun d env k => match d with
  | .tup l => l.length = n ∧ w l env k
  | .lst l => l.length = n ∧ w l env k
  | _ => False
theorem pgs_imp {t t' : TGs} (h : PGs X es t) (i : ∀ v σ H Q, t' v σ H Q → t v σ H Q) : PGs X es t' := ⟨fun pins s σ H vs us Q I r q => h.run pins s σ H vs us Q I r (i _ _ _ _ q)⟩
theorem px_gsnil : PGs X [] (Lgs f gsNil []) := pgs_imp pgs_nil fun vs σ H Q h => by
  obtain ⟨env, μ, F, ds, Qp, rel, rd, hw, k⟩ := h
  cases ds with
  | nil =>
    cases rd
    exact ⟨rfl, k env σ rel rfl (fun _ _ => ⟨rfl, rfl⟩) hw⟩
  | cons d ds => exact hw.elim
theorem px_gscons {wg : WG} {wgs : WGs} {g1 g2 : List Nat} (h1 : PXG X f e wg g1) (h2 : PGs X es (Lgs f wgs g2)) (hs : (assignEach (e :: es) X.env).map (·.2) = assign e X.env :: (assignEach es X.env).map (·.2) := by rfl) : PGs X (e :: es) (Lgs f (gsCons wg wgs) (g1 ++ g2)) :=
  pgs_imp (pgs_cons h1 h2 hs) fun vs σ H Q h => by
    obtain ⟨env, μ, F, ds, Qp, rel, rd, hw, k⟩ := h
    cases rd with
    | nil => exact hw.elim
    | cons r rr =>
      rename_i v vs d ds
      refine ⟨v, vs, rfl, env, μ, F, d, _, rel, r, hw, fun env1 σ1 rel1 l1 o1 q1 => ?_⟩
      refine ⟨env1, μ, F, ds, _, rel1, rr, q1, fun env2 σ2 rel2 l2 o2 q2 => ?_⟩
      exact k env2 σ2 rel2 (l2.trans l1) (fun j hj => by
        rw [List.mem_append, not_or] at hj
        exact ⟨(o2 j hj.2).1.trans (o1 j hj.1).1, (o2 j hj.2).2.trans (o1 j hj.1).2⟩) q2
theorem px_gtp {wgs : WGs} {gs : List Nat} {k n : Nat} (hK : X.K = f.c.K) (hc : X.calm = true) (h : PGs X es (Lgs f wgs gs)) (hn : (assignEach es X.env).length = n := by rfl) (hst : (assignEach es X.env).findIdx? (·.1) = none := by rfl) : PXG X f (.Tuple es k pos) (gTp n wgs) gs := pg_imp (pg_tup hc h hn hst) fun v σ H Q h => by
  obtain ⟨env, μ, F, d, Qp, rel, rd, hw, k⟩ := h
  cases rd <;> first | exact hw.elim | skip
  rename_i a xs l s r
  refine ⟨a, xs, rfl, SqT.of (rel.fh _ _ s), by rw [r.len]; exact hw.1, env, μ, F, l, Qp, rel, r, hw.2, k⟩
theorem pg_or {t t' : TG} (h : PG X tg t) (h' : PG X tg t') : PG X tg (fun v σ H Q => t v σ H Q ∨ t' v σ H Q) := ⟨fun pins s σ H v u Q I r q => q.elim (h.run pins s σ H v u Q I r) (h'.run pins s σ H v u Q I r)⟩
theorem px_gsq {wgs : WGs} {gs : List Nat} {k n : Nat} (hK : X.K = f.c.K) (hc : X.calm = true) (h : PGs X es (Lgs f wgs gs)) (hn : (assignEach es X.env).length = n := by rfl) (hst : (assignEach es X.env).findIdx? (·.1) = none := by rfl) : PXG X f (.Tuple es k pos) (gSq n wgs) gs := pg_imp (pg_or (pg_tup hc h hn hst) (pg_lst hc h hn hst)) fun v σ H Q h => by
  obtain ⟨env, μ, F, d, Qp, rel, rd, hw, k⟩ := h
  cases rd <;> first | exact hw.elim | skip
  · rename_i a xs l s r
    exact .inl ⟨a, xs, rfl, SqT.of (rel.fh _ _ s), by rw [r.len]; exact hw.1, env, μ, F, l, Qp, rel, r, hw.2, k⟩
  · rename_i a xs l s r
    exact .inr ⟨a, xs, rfl, SqL.of (rel.fh _ _ s), by rw [r.len]; exact hw.1, env, μ, F, l, Qp, rel, r, hw.2, k⟩
/-- a, b = e -/
def wAsgG (wg : WG) (wa : WE) : WS := fun n env μ => wa env μ (fun r μ1 => r.still fun d => wg d env fun env' => n.nx env' μ1) n.ex
theorem px_asgG {wg : WG} {gs : List Nat} (he : PX X f W e wa) (hg : PXG X f tg wg gs) (hs : swapsWithSole [tg] e pos.line X.env = pure false := by rfl) (hw : swappedStores [tg] e X.env = pure none := by rfl) (h1 : (assignEach [tg] X.env).map (·.2) = [assign tg X.env] := by rfl) : PXS X f W (.Assign [tg] e pos) (wAsgG wg wa) :=
  ps_imp (ps_asg he hg hs hw h1) fun D σ H h => by
    obtain ⟨env, μ, F, n, rel, hw, ok⟩ := h
    refine ⟨env, μ, F, _, _, rel, hw, fun r1 μ1 v1 F1 H1 rel1 e1 rr1 q1 => ?_, fun x μ2 cls d F2 H2 rel2 e2 xr q2 => ok.ex x env μ2 σ cls d F2 H2 rel2 e2 xr q2⟩
    obtain ⟨F1', rel1', e1', rz1⟩ := settle rel1 rr1
    obtain ⟨s1, q1'⟩ := still_ok rz1 q1
    exact ⟨env, μ1, F1', _, _, rel1', s1, q1', fun env2 σ2 rel2 _ _ q2 => ok.nx env2 μ1 σ2 F1' H1 rel2 (e1.trans e1') q2⟩
/-- a, b = e1, e2: two names of the frame's own -/
def wPar (i j : Nat) (wa wb : WE) : WS := fun n env μ => wa env μ (fun r1 μ1 => r1.still fun d1 => wb env μ1 (fun r2 μ2 => r2.still fun d2 => n.nx ((env.set i (some (.val d1))).set j (some (.val d2))) μ2) n.ex) n.ex
/-! ### what is walked -/
/-- J hands out the items l, whatever else goes on -/
def Serves (f : Fm) (J : It) (l : List D) (F1 : Hp) : Prop := ∀ (f' : Fm) (env : Ev) (μ : Mu) (σ : L2.St) (F H : Hp), f'.c = f.c → Rel f' env μ σ F H → Same F1 F →
  (∀ i, i < l.length → J.go i H ∧ ∀ x H', J.yld i H x H' → ∃ F' d, l[i]? = some d ∧ Rel f' env μ σ F' H' ∧ Same F F' ∧ Same H H' ∧ Rep f.c F' x d) ∧ J.stop l.length H
abbrev WI := Ev → Mu → (List D → Mu → Prop) → (Exc → Mu → Prop) → Prop
def Li (f : Fm) (W : WX) (w : WI) : TI := fun σ H R => ∃ env μ F Qp Ep, Rel f env μ σ F H ∧ w env μ Qp Ep ∧
  (∀ l μ' F' H' J, Rel f env μ' σ F' H' → Same F F' → Serves f J l F' → Qp l μ' → R J H') ∧
  (∀ x μ' cls d F' H', Rel f env μ' σ F' H' → Same F F' → XR f.c F' H' x cls d → Ep x μ' → W cls d σ H')
abbrev PXI (X : Cx) (f : Fm) (W : WX) (tg e : Expr) (w : WI) : Prop := PI X tg e (Li f W w)
theorem pi_imp {t t' : TI} (h : PI X tg e t) (i : ∀ σ H Q, t' σ H Q → t σ H Q) : PI X tg e t' := ⟨fun pins s σ H R I q => h.run pins s σ H R I (i _ _ _ q)⟩
theorem pi_or {t t' : TI} (h : PI X tg e t) (h' : PI X tg e t') : PI X tg e (fun σ H R => t σ H R ∨ t' σ H R) := ⟨fun pins s σ H R I q => q.elim (h.run pins s σ H R I) (h'.run pins s σ H R I)⟩
/-- the items of a list, a tuple, a text -/
def D.items : D → Option (List D)
  | .lst l => some l
  | .tup l => some l
  | .scr l => some (l.map .int)
  | _ => none
def wIt (wa : WE) : WI := fun env μ Q E => wa env μ (fun r μ1 => r.still fun d => match d.items with
  | some l => Q l μ1
  | none => False) E
theorem serves_lst {a : Addr} {xs : List V} {l : List D} {F1 : Hp} {K : PySem.W.Frag} (hK : K = f.c.K) (hs : F1 a = some (.lst xs)) (r : Reps f.c F1 xs l) : Serves f (Itl K a) l F1 := by
  subst hK
  intro f' env μ σ F H ec rel s
  have hq : SqL f.c.K H a xs := SqL.of (rel.fh _ _ (s _ _ hs))
  refine ⟨fun i hi => ⟨⟨xs, xs[i]'(by rw [r.len]; exact hi), hq, by simp [r.len, hi]⟩, fun x H' ⟨e1, e2⟩ => ?_⟩, ⟨xs, hq, by rw [r.len]; exact Nat.le_refl _⟩⟩
  subst e1
  obtain ⟨v, h1, h2⟩ := r.get (i := i) (List.getElem?_eq_getElem hi)
  have e3 := e2 xs hq
  rw [h1] at e3
  cases e3
  exact ⟨F, _, List.getElem?_eq_getElem hi, rel, Same.refl _, Same.refl _, Rep.mono s _ _ h2⟩
theorem serves_seqL {a : Addr} {xs : List V} {l : List D} {F1 : Hp} {K : PySem.W.Frag} (hK : K = f.c.K) (hs : SqL f.c.K F1 a xs) (r : Reps f.c F1 xs l) : Serves f (Itl K a) l F1 := by
  subst hK
  intro f' env μ σ F H ec rel s
  have hq : SqL f.c.K H a xs := rel.fh.seq (s.seq hs)
  refine ⟨fun i hi => ⟨⟨xs, xs[i]'(by rw [r.len]; exact hi), hq, by simp [r.len, hi]⟩, fun x H' ⟨e1, e2⟩ => ?_⟩, ⟨xs, hq, by rw [r.len]; exact Nat.le_refl _⟩⟩
  subst e1
  obtain ⟨v, h1, h2⟩ := r.get (i := i) (List.getElem?_eq_getElem hi)
  have e3 := e2 xs hq
  rw [h1] at e3
  cases e3
  exact ⟨F, _, List.getElem?_eq_getElem hi, rel, Same.refl _, Same.refl _, Rep.mono s _ _ h2⟩
theorem serves_tup {a : Addr} {xs : List V} {l : List D} {F1 : Hp} {K : PySem.W.Frag} (hK : K = f.c.K) (hs : SqT f.c.K F1 a xs) (r : Reps f.c F1 xs l) : Serves f (Itt K a) l F1 := by
  subst hK
  intro f' env μ σ F H ec rel s
  have hq : SqT f.c.K H a xs := sqt_same rel.fh (sqt_same s hs)
  refine ⟨fun i hi => ⟨⟨xs, xs[i]'(by rw [r.len]; exact hi), hq, by simp [r.len, hi]⟩, fun x H' ⟨e1, e2⟩ => ?_⟩, ⟨xs, hq, by rw [r.len]; exact Nat.le_refl _⟩⟩
  subst e1
  obtain ⟨v, h1, h2⟩ := r.get (i := i) (List.getElem?_eq_getElem hi)
  have e3 := e2 xs hq
  rw [h1] at e3
  cases e3
  exact ⟨F, _, List.getElem?_eq_getElem hi, rel, Same.refl _, Same.refl _, Rep.mono s _ _ h2⟩
/-- a list or a tuple, whichever it turns out to be -/
def iSeq (K : PySem.W.Frag) (te : TE) : TI := fun σ H R => te σ H fun x H1 => ∃ a, x = .ref a ∧ ((∃ xs, SqL K H1 a xs ∧ R (Itl K a) H1) ∨ (∃ xs, SqT K H1 a xs ∧ R (Itt K a) H1))
theorem pi_seq {te : TE} (he : PE X e te) : PI X tg e (iSeq X.K te) := by
  refine ⟨fun pins s σ H R I h => thn (he.run pins s σ H _ I h) fun v s1 hv => ?_⟩
  obtain ⟨y, H1, I1, ry, a, ea, hk⟩ := hv
  subst ea
  cases ry
  rcases hk with ⟨xs, hq, q⟩ | ⟨xs, hq, q⟩
  · obtain ⟨its, rv, pl, hz⟩ := I1.list hq
    refine wpAny_pyIter_list pl.isList ⟨s1.heap.objs.size, [s1.heap.objs.size], _, _, H1, rfl, I1.kept (t' := s1.toks) fun b o eo => Heap.get?_push_of_some _ eo, turn_list a _, ⟨_, Heap.get?_push_size _ rfl, rfl, rfl⟩, fun b hb => ?_, q⟩
    rw [List.mem_singleton] at hb
    rw [hb]
    exact I1.fpOk (Nat.le_refl _) (I1.hok.fresh (Nat.le_refl _))
  · obtain ⟨its, rv, pl, hz⟩ := I1.tuple hq
    refine wpAny_pyIter_tuple (show s1.heap.IsTuple a its.toArray from pl) ⟨s1.heap.objs.size, [s1.heap.objs.size], _, _, H1, rfl, I1.kept (t' := s1.toks) fun b o eo => Heap.get?_push_of_some _ eo, turn_tuple a _, ⟨_, Heap.get?_push_size _ rfl, rfl, rfl⟩, fun b hb => ?_, q⟩
    rw [List.mem_singleton] at hb
    rw [hb]
    exact I1.fpOk (Nat.le_refl _) (I1.hok.fresh (Nat.le_refl _))
theorem px_it (hK : X.K = f.c.K) (ha : PX X f W a wa) : PXI X f W tg a (wIt wa) := pi_imp (pi_seq ha) fun σ H R h => by
  obtain ⟨env, μ, F, Qp, Ep, rel, hw, k, kx⟩ := h
  refine ⟨env, μ, F, _, Ep, rel, hw, fun r1 μ1 v1 F1 H1 rel1 e1 rr1 q1 => ?_, kx⟩
  obtain ⟨F1', rel1', e1', rz1⟩ := settle rel1 rr1
  obtain ⟨s1, q1'⟩ := still_ok rz1 q1
  have eA := e1.trans e1'
  generalize r1.d = d at s1 q1'
  cases s1 <;> first | exact q1'.elim | skip
  · rename_i p xs l s r
    exact ⟨p, rfl, .inr ⟨xs, SqT.of (rel1'.fh _ _ s), k l μ1 F1' H1 _ rel1' eA (serves_tup hK (SqT.of s) r) q1'⟩⟩
  · rename_i p xs l s r
    exact ⟨p, rfl, .inl ⟨xs, SqL.of (rel1'.fh _ _ s), k l μ1 F1' H1 _ rel1' eA (serves_lst hK s r) q1'⟩⟩
  · rename_i p ns s z
    exact ⟨p, rfl, .inl ⟨_, by rw [hK]; exact rel1'.fh.seq s, k _ μ1 F1' H1 _ rel1' eA (serves_seqL hK s (Reps.ints ns)) q1'⟩⟩
/-- range(n), range(m, n) -/
def wRng1 (wa : WE) : WI := fun env μ Q E => wa env μ (fun r μ1 => match r.d with
  | .int j => -(2 ^ 62) ≤ j ∧ j < 2 ^ 62 ∧ Q ((List.range j.toNat).map fun i => .int (i : Nat)) μ1
  | _ => False) E
def wRng2 (wa wb : WE) : WI := fun env μ Q E => wa env μ (fun r1 μ1 => wb env μ1 (fun r2 μ2 => match r1.d, r2.d with
  | .int i, .int j => (-(2 ^ 62) ≤ i ∧ i < 2 ^ 62 ∧ -(2 ^ 62) ≤ j ∧ j < 2 ^ 62) ∧ Q ((List.range (j - i).toNat).map fun n => .int (i + (n : Nat))) μ2
  | _, _ => False) E) E
theorem serves_rng {lo : Int} {n : Nat} {F1 : Hp} : Serves f (Itr lo n) ((List.range n).map fun i => .int (lo + (i : Nat))) F1 := by
  intro f' env μ σ F H ec rel s
  refine ⟨fun i hi => ?_, by show n ≤ _; simp⟩
  have hi' : i < n := by simpa using hi
  refine ⟨hi', fun x H' ⟨e1, e2⟩ => ?_⟩
  subst e1 e2
  exact ⟨F, .int (lo + (i : Nat)), by rw [List.getElem?_map, List.getElem?_range hi']; rfl, rel, Same.refl _, Same.refl _, .int _⟩
theorem px_rng1 {pr : Pos} (hm : X.mg "range" = none) (ha : PX X f W a wa) (gl : Gl X "range" := by rfl) (hs : starEach [a] X.env = [(false, eval a X.env)] := by rfl) : PXI X f W tg (.Call (.Name "range" p) [a] [] pr) (wRng1 wa) :=
  pi_imp (pi_range1 gl hm (pa_cons ha pa_nil hs) hs) fun σ H R h => by
    obtain ⟨env, μ, F, Qp, Ep, rel, hw, k, kx⟩ := h
    refine ⟨env, μ, F, _, Ep, rel, hw, fun r1 μ1 v1 F1 H1 rel1 e1 rr1 q1 => ?_, kx⟩
    obtain ⟨F1', rel1', e1', rz1⟩ := settle rel1 rr1
    cases e2 : r1.d <;> rw [e2] at q1 <;> first | exact q1.elim | skip
    rename_i j
    refine ⟨j, by rw [rz1.int e2], q1.1, q1.2.1, k _ μ1 F1' H1 _ rel1' (e1.trans e1') ?_ q1.2.2⟩
    have := serves_rng (f := f) (lo := 0) (n := j.toNat) (F1 := F1')
    simpa using this
theorem px_rng2 {pr : Pos} (hm : X.mg "range" = none) (ha : PX X f W a wa) (hb : PX X f W b wb) (gl : Gl X "range" := by rfl) (hs : starEach [a, b] X.env = [(false, eval a X.env), (false, eval b X.env)] := by rfl) (hs2 : starEach [b] X.env = [(false, eval b X.env)] := by rfl) :
    PXI X f W tg (.Call (.Name "range" p) [a, b] [] pr) (wRng2 wa wb) :=
  pi_imp (pi_range2 gl hm (pa_cons ha (pa_cons hb pa_nil hs2) (by rw [hs, hs2])) hs hs2) fun σ H R h => by
    obtain ⟨env, μ, F, Qp, Ep, rel, hw, k, kx⟩ := h
    refine ⟨env, μ, F, _, Ep, rel, hw, fun r1 μ1 v1 F1 H1 rel1 e1 rr1 q1 => ?_, kx⟩
    obtain ⟨F1', rel1', e1', rz1⟩ := settle rel1 rr1
    have eA := e1.trans e1'
    refine ⟨env, μ1, F1', _, Ep, rel1', q1, fun r2 μ2 v2 F2 H2 rel2 e2 rr2 q2 => ?_, fun x μ2 cls d F2 H2 rel2 e2 xr q2 => kx x μ2 cls d F2 H2 rel2 (eA.trans e2) xr q2⟩
    obtain ⟨F2', rel2', e2', rz2⟩ := settle rel2 rr2
    cases d1 : r1.d <;> cases d2 : r2.d <;> rw [d1, d2] at q2 <;> first | exact q2.elim | skip
    rename_i i j
    exact ⟨i, j, by rw [rz1.int d1, rz2.int d2], q2.1, k _ μ2 F2' H2 _ rel2' ((eA.trans e2).trans e2') serves_rng q2.2⟩
/-! ### for -/
def wForL (wg : WG) (wb : WS) (n : En) : List D → Ev → Mu → Prop
  | [], env, μ => n.nx env μ
  | d :: l, env, μ => wg d env fun env' => wb { n with nx := wForL wg wb n l, ct := wForL wg wb n l, bk := n.nx } env' μ
def wFor (wi : WI) (wg : WG) (wb : WS) : WS := fun n env μ => wi env μ (fun l μ1 => wForL wg wb n l env μ1) n.ex
theorem px_for {wi : WI} {wg : WG} {gs : List Nat} {body : List Stmt} (hp : PassesOwn (model X.prog X.w) X.A X.env X.xe) (hc : X.calm = true) (hi : PXI X f W tg iter wi) (hg : PXG X f tg wg gs) (hb : PXSs X f W body ws) (hs : ∀ x, foldedSetIterable iter X.env x = pure x := by intro _; rfl) :
    PXS X f W (.For tg iter body [] pos) (wFor wi wg ws) := ps_imp (ps_for hp hc hi hg hb hs) fun Dn σ H h => by
  obtain ⟨env, μ, F, n, rel, hw, ok⟩ := h
  refine ⟨env, μ, F, _, _, rel, hw, fun l μ1 F1 H1 J rel1 e1 sv q1 => ?_, fun x μ2 cls d F2 H2 rel2 e2 xr q2 => ok.ex x env μ2 σ cls d F2 H2 rel2 e2 xr q2⟩
  refine ⟨fun i m σ H => m = l.length - i ∧ i ≤ l.length ∧ ∃ env μ F, Rel f env μ σ F H ∧ Same F1 F ∧ wForL wg ws n (l.drop i) env μ, ⟨l.length, by simp, Nat.zero_le _, env, μ1, F1, rel1, Same.refl _, q1⟩, ?_⟩
  rintro i m σ2 H2 ⟨rfl, hi2, env2, μ2, F2, rel2, s2, q2⟩
  obtain ⟨go, stop⟩ := sv f env2 μ2 σ2 F2 H2 rfl rel2 s2
  by_cases hlt : i < l.length
  · obtain ⟨g1, g2⟩ := go i hlt
    refine .inr ⟨g1, fun σ' H' => l.length - (i + 1) = l.length - (i + 1) ∧ i + 1 ≤ l.length ∧ ∃ env μ F, Rel f env μ σ' F H' ∧ Same F1 F ∧ wForL wg ws n (l.drop (i + 1)) env μ, fun σ' H' hN => ⟨l.length - (i + 1), by omega, hN⟩, fun x H' hy => ?_⟩
    obtain ⟨F3, d, hd, rel3, s3, sH, rd⟩ := g2 x H' hy
    have ed : l.drop i = d :: l.drop (i + 1) := by
      rw [List.drop_eq_getElem_cons hlt]
      rw [List.getElem?_eq_getElem hlt] at hd
      rw [Option.some.inj hd]
    rw [ed] at q2
    refine ⟨env2, μ2, F3, d, _, rel3, rd, q2, fun env4 σ4 rel4 _ _ q4 => ?_⟩
    refine ⟨env4, μ2, F3, _, rel4, q4, ?_⟩
    have back : ∀ env' μ' σ' F' H', Rel f env' μ' σ' F' H' → Same F3 F' → wForL wg ws n (l.drop (i + 1)) env' μ' → l.length - (i + 1) = l.length - (i + 1) ∧ i + 1 ≤ l.length ∧ ∃ env μ F, Rel f env μ σ' F H' ∧ Same F1 F ∧ wForL wg ws n (l.drop (i + 1)) env μ :=
      fun env' μ' σ' F' H' r s q => ⟨rfl, hlt, env', μ', F', r, (s2.trans s3).trans s, q⟩
    have okk := (ok.mono e1).mono (s2.trans s3)
    exact { okk with nx := back, ct := back, bk := fun env' μ' σ' F' H' r s q => okk.nx env' μ' σ' F' H' r s q }
  · have ei : i = l.length := by omega
    subst ei
    refine .inl ⟨stop, ?_⟩
    rw [List.drop_length] at q2
    exact ((ok.mono e1).mono s2).nx env2 μ2 σ2 F2 H2 rel2 (Same.refl _) q2
/-! ### while -/
def wWhN (wt : WT) (wb : WS) (n : En) : Nat → Ev → Mu → Prop
  | 0, _, _ => False
  | k + 1, env, μ => wt env μ (fun b μ1 => if b = true then wb { n with nx := wWhN wt wb n k, ct := wWhN wt wb n k, bk := n.nx } env μ1 else n.nx env μ1) n.ex
def wWhile (wt : WT) (wb : WS) : WS := fun n env μ => ∃ k, wWhN wt wb n k env μ
theorem px_while {c : Expr} {body : List Stmt} (hp : PassesOwn (model X.prog X.w) X.A X.env X.xe) (hc : PXT X f W c wt) (hb : PXSs X f W body ws) : PXS X f W (.While c body [] pos) (wWhile wt ws) := ps_imp (ps_while hp hc hb) fun Dn σ H h => by
  obtain ⟨env, μ, F, n, rel, ⟨k, hw⟩, ok⟩ := h
  refine ⟨fun m σ H => ∃ env μ F', Rel f env μ σ F' H ∧ Same F F' ∧ wWhN wt ws n m env μ, ⟨k, env, μ, F, rel, Same.refl _, hw⟩, ?_⟩
  rintro m σ2 H2 ⟨env2, μ2, F2, rel2, s2, q2⟩
  cases m with
  | zero => exact q2.elim
  | succ m =>
    refine ⟨env2, μ2, F2, _, _, rel2, q2, fun b μ3 F3 H3 rel3 e3 q3 => ?_, fun x μ' cls d F' H' rel' e' xr q' => (ok.mono s2).ex x env2 μ' σ2 cls d F' H' rel' e' xr q'⟩
    cases b with
    | true =>
      have back : ∀ env' μ' σ' F' H', Rel f env' μ' σ' F' H' → Same F3 F' → wWhN wt ws n m env' μ' → ∃ env μ F', Rel f env μ σ' F' H' ∧ Same F F' ∧ wWhN wt ws n m env μ :=
        fun env' μ' σ' F' H' r s q => ⟨env', μ', F', r, (s2.trans e3).trans s, q⟩
      refine ⟨fun σ' H' => ∃ env μ F', Rel f env μ σ' F' H' ∧ Same F F' ∧ wWhN wt ws n m env μ, fun σ' H' hN => ⟨m, Nat.lt_succ_self m, hN⟩, env2, μ3, F3, _, rel3, q3, ?_⟩
      have okk := (ok.mono s2).mono e3
      exact { okk with nx := back, ct := back, bk := fun env' μ' σ' F' H' r s q => okk.nx env' μ' σ' F' H' r s q }
    | false => exact ((ok.mono s2).mono e3).nx env2 μ3 σ2 F3 H3 rel3 (Same.refl _) q3
end
end PD
set_option Elab.async false
set_option linter.all false
set_option maxRecDepth 100000
set_option maxHeartbeats 2000000
/-! PD8: list comprehensions; lists that grow. -/
namespace PD
open PySem PySem.Spec L2
section
variable {X : Cx} {f : Fm} {W : WX} {e a b cc tg iter elt : Expr} {es rest ifs : List Expr} {wa wb wc w : WE} {wr : WA} {wt wt' wu : WT} {pos : Pos} {env : Ev} {μ : Mu} {σ : L2.St} {F F' H : Hp} {x : Str} {p : Pos} {st : Stmt} {ss : List Stmt} {ws ws' : WS} {n : En} {Dn : Ends}
/-- an object that is no one's, watched -/
abbrev guardF (f : Fm) (D : Addr) (o : HO) : Fm := ⟨f.c, upd f.B D o, f.F0⟩
theorem Rel.guard {D : Addr} {o : HO} (q : Rel f env μ σ F H) (ho : H D = some o) (ot : ∀ ps, o ≠ .tbl ps) (nf : F D = none) (nm : μ D = none) (no : ∀ (i : Nat) (k' : Cont), env[i]? = some (some (.own k')) → σ[i]? ≠ some (some (.ref D))) : Rel (guardF f D o) env μ σ F H where
  bh := fun b u hb => by
    by_cases e : b = D
    · subst e
      have hb' : upd f.B b o b = some u := hb
      rw [upd_same] at hb'
      rw [← hb']
      exact ho
    · exact q.bh b u (by rw [← hb]; exact (upd_ne e).symm)
  bn := fun b ps hb => by
    by_cases e : b = D
    · subst e
      have hb' : upd f.B b o b = some (.tbl ps) := hb
      rw [upd_same] at hb'
      exact ot ps (Option.some.inj hb')
    · exact q.bn b ps ((upd_ne e).symm.trans hb)
  f0 := q.f0
  fh := q.fh
  fb := fun b u hb => by
    have e : b ≠ D := fun e => by
      rw [e, nf] at hb
      cases hb
    rcases q.fb b u hb with h | h
    · exact .inl h
    · exact .inr ((upd_ne e).trans h)
  ft := q.ft
  mu := fun a m h => by
    have e : a ≠ D := fun e => by
      rw [e, nm] at h
      cases h
    obtain ⟨h1, h2, h3⟩ := q.mu a m h
    exact ⟨h1, (upd_ne e).trans h2, h3⟩
  tb := q.tb
  len := q.len
  dj := q.dj
  sl := fun i sv h => by
    cases sv with
    | val d => exact q.sl i _ h
    | own k =>
      obtain ⟨a, h1, h2, h3, h4, h5⟩ := q.sl i _ h
      have e : a ≠ D := fun e => no i k h (by rw [← e]; exact h1)
      exact ⟨a, h1, h2, (upd_ne e).trans h3, h4, h5⟩
theorem Fit.watched {D : Addr} {o : HO} (q : Fit (guardF f D o) μ F H) (nt : ∀ ps, o ≠ .tbl ps) (n0 : f.F0 D = none) : H D = some o ∧ F D = none ∧ μ D = none := by
  refine ⟨q.bh D o upd_same, ?_, ?_⟩
  · cases h : F D with
    | none => rfl
    | some u =>
      rcases q.fb D u h with z | z
      · have z' : f.F0 D = some u := z
        rw [n0] at z'
        cases z'
      · have z' : upd f.B D o D = none := z
        rw [upd_same] at z'
        cases z'
  · cases h : μ D with
    | none => rfl
    | some m =>
      obtain ⟨_, z, _⟩ := q.mu D m h
      have z' : upd f.B D o D = none := z
      rw [upd_same] at z'
      cases z'
theorem Fit.unguard {D : Addr} {o : HO} (q : Fit (guardF f D o) μ F H) (nt : ∀ ps, o ≠ .tbl ps) (n0 : f.F0 D = none) (nb : f.B D = none) : Fit f μ F H where
  bh := fun b u hb => q.bh b u (by
    have e : b ≠ D := fun e => by
      rw [e, nb] at hb
      cases hb
    exact (upd_ne e).trans hb)
  bn := fun b ps hb => by
    have e : b ≠ D := fun e => by
      rw [e, nb] at hb
      cases hb
    exact q.bn b ps ((upd_ne e).trans hb)
  f0 := q.f0
  fh := q.fh
  fb := fun b u hb => by
    rcases q.fb b u hb with h | h
    · exact .inl h
    · have e : b ≠ D := fun e => by
        have h' : upd f.B D o b = none := h
        rw [e, upd_same] at h'
        cases h'
      exact .inr ((upd_ne e).symm.trans h)
  ft := q.ft
  mu := fun a m h => by
    obtain ⟨h1, h2, h3⟩ := q.mu a m h
    have e : a ≠ D := fun e => by
      have h' : upd f.B D o a = none := h2
      rw [e, upd_same] at h'
      cases h'
    exact ⟨h1, (upd_ne e).symm.trans h2, h3⟩
  tb := q.tb
def noOwn (env : Ev) (vs : List Nat) : Bool := vs.all fun i => match env[i]? with
  | some (some (.own _)) => false
  | _ => true
theorem noOwn_at {vs : List Nat} (h : noOwn env vs = true) {i : Nat} (hi : i ∈ vs) (k : Cont) : env[i]? ≠ some (some (.own k)) := fun z => by
  have := List.all_eq_true.mp h i hi
  rw [z] at this
  cases this
/-- behind a block: the slots of the def, over the block's end -/
theorem Rel.back {D : Addr} {o : HO} {env2 : Ev} {μ2 : Mu} {σ2 : L2.St} {F2 H2 : Hp} {vs : List Nat} (q : Rel f env μ σ F H) (q2 : Rel (guardF f D o) env2 μ2 σ2 F2 H2) (s : Same F F2) (nt : ∀ ps, o ≠ .tbl ps) (n0 : f.F0 D = none) (nb : f.B D = none) (no : noOwn env vs = true)
    (ag : ∀ i, i ∉ vs → σ2[i]? = σ[i]? ∧ env2[i]? = env[i]?) : Rel f env μ2 σ F2 H2 :=
  { q2.toFit.unguard nt n0 nb with
    len := q.len
    dj := q.dj
    sl := fun i sv h => by
      cases sv with
      | val d =>
        obtain ⟨v, h1, h2⟩ := q.sl i _ h
        exact ⟨v, h1, Rep.mono s _ _ h2⟩
      | own k =>
        have hi : i ∉ vs := fun hi => noOwn_at no hi k h
        obtain ⟨e1, e2⟩ := ag i hi
        obtain ⟨a, h1, h2, h3, h4, h5⟩ := q2.sl i _ (e2.trans h)
        have e : a ≠ D := fun e => by
          have h' : upd f.B D o a = none := h3
          rw [e, upd_same] at h'
          cases h'
        exact ⟨a, e1.symm.trans h1, h2, (upd_ne e).symm.trans h3, h4, h5⟩ }
/-- an object that is no one's is changed -/
theorem Rel.touch {D : Addr} {o o' : HO} (q : Rel f env μ σ F H) (ho : H D = some o) (nt : (∀ ps, o ≠ .tbl ps) ∧ ∀ φ, o ≠ .ext φ) (nf : F D = none) (nb : f.B D = none) (nm : μ D = none) (no : ∀ (i : Nat) (k' : Cont), env[i]? = some (some (.own k')) → σ[i]? ≠ some (some (.ref D))) :
    Rel f env μ σ F (upd H D o') :=
  { q.toFit.write ho nt nf nb nm with
    len := q.len
    dj := q.dj
    sl := fun i sv h => by
      cases sv with
      | val d => exact q.sl i _ h
      | own k => exact (q.sl i _ h).stay (Same.refl _) fun a u h1 h2 _ _ hq => ⟨by
          rw [upd_ne (fun e => no i k h (by rw [← e]; exact h1))]
          exact hq, h2⟩ }
/-! ### the lifts, the frame left open -/
def LfE (f : Fm) (w : WE) : TE := fun σ H Q => ∃ B, Lf ⟨f.c, B, f.F0⟩ (fun _ _ _ _ => False) w σ H Q
def LtE (f : Fm) (w : WT) : TT := fun σ H Q => ∃ B, Lt ⟨f.c, B, f.F0⟩ (fun _ _ _ _ => False) w σ H Q
def LgE (f : Fm) (w : WG) (gs : List Nat) : TG := fun v σ H Q => ∃ B, Lg ⟨f.c, B, f.F0⟩ w gs v σ H Q
theorem pe_any (h : ∀ B, PX X ⟨f.c, B, f.F0⟩ (fun _ _ _ _ => False) e w) : PE X e (LfE f w) := ⟨fun pins s σ H Q I ⟨B, q⟩ => (h B).run pins s σ H Q I q⟩
theorem pg_any {wg : WG} {gs : List Nat} (h : ∀ B, PXG X ⟨f.c, B, f.F0⟩ tg wg gs) : PG X tg (LgE f wg gs) := ⟨fun pins s σ H v u Q I r ⟨B, q⟩ => (h B).run pins s σ H v u Q I r q⟩
/-- the tests of a comprehension -/
def PXTs (X : Cx) (f : Fm) (ifs : List Expr) (w : WT) : Prop := PTs X ifs (LtE f w)
def wYes : WT := fun _ μ Q _ => Q true μ
theorem px_tsNil : PXTs X f [] wYes := ⟨fun pins s σ H Q I ⟨B, q⟩ => pts_nil.run pins s σ H Q I (lt_now q)⟩
theorem px_tsOne {c : Expr} (h : ∀ B, PXT X ⟨f.c, B, f.F0⟩ (fun _ _ _ _ => False) c wt) : PXTs X f [c] wt := ⟨fun pins s σ H Q I ⟨B, q⟩ => (pts_one (h B)).run pins s σ H Q I q⟩
/-! ### [elt for tg in iter if ..] -/
def noX : Exc → Mu → Prop := fun _ _ => False
def wLcL (wg : WG) (wt : WT) (we : WE) (vs : List Nat) (Q : List D → Mu → Prop) (env : Ev) : List D → List D → Mu → Prop
  | [], acc, μ => Q acc μ
  | d :: l, acc, μ => wg d (wipeE env vs) fun env' => wt env' μ (fun b μ1 => if b = true then we env' μ1 (fun r μ2 => r.still fun y => acc.length < sizeLine ∧ wLcL wg wt we vs Q env l (acc ++ [y]) μ2) noX else wLcL wg wt we vs Q env l acc μ1) noX
def wLc (wi : WI) (wg : WG) (wt : WT) (we : WE) (vs : List Nat) : WE := fun env μ Q E => wi env μ (fun l μ1 => noOwn env vs = true ∧ wLcL wg wt we vs (fun acc μ2 => Q (.fresh (.lst acc)) μ2) env l [] μ1) E
theorem wipeE_out {i : Nat} : ∀ {vs : List Nat}, i ∉ vs → (wipeE env vs)[i]? = env[i]?
  | [], _ => rfl
  | w :: ws, h => by
    show ((wipeE env ws).set w none)[i]? = _
    rw [set_at (fun e => h (by rw [e]; exact List.mem_cons_self))]
    exact wipeE_out (fun z => h (List.mem_cons_of_mem _ z))
theorem wipe_outσ {i : Nat} : ∀ {vs : List Nat}, i ∉ vs → (wipe σ vs)[i]? = σ[i]?
  | [], _ => rfl
  | w :: ws, h => by
    show ((wipe σ ws).set w none)[i]? = _
    rw [set_at (fun e => h (by rw [e]; exact List.mem_cons_self))]
    exact wipe_outσ (fun z => h (List.mem_cons_of_mem _ z))
theorem lc_ok {wi : WI} {wg : WG} {gs vs : List Nat} {we : WE} (hgs : ∀ i ∈ gs, i ∈ vs) (σ : L2.St) (H : Hp) (Q : VK) (h : Lf f W (wLc wi wg wt we vs) σ H Q) : tLc (Li f W wi) (LgE f wg gs) (LtE f wt) (LfE f we) vs σ H Q := by
  obtain ⟨env, μ, F, Qp, Ep, rel, hw, k, kx⟩ := h
  refine ⟨env, μ, F, _, Ep, rel, hw, fun l μ1 F1 H1 J rel1 e1 sv q1 => ?_, kx⟩
  obtain ⟨no, q1⟩ := q1
  intro A hA
  have nbA : f.B A = none := rel1.bt A hA
  have nfA : F1 A = none := rel1.bnone hA
  have n0A : f.F0 A = none := by
    cases h0 : f.F0 A with
    | none => rfl
    | some u =>
      rw [rel1.f0 A u h0] at nfA
      cases nfA
  have noA : ∀ (i : Nat) (k' : Cont), env[i]? = some (some (.own k')) → σ[i]? ≠ some (some (.ref A)) := rel1.notOwn hA
  have soft : ∀ xs : List V, (∀ ps, HO.lst xs ≠ .tbl ps) ∧ ∀ φ, HO.lst xs ≠ .ext φ := fun xs => ⟨(fun ps z => by cases z), (fun φ z => by cases z)⟩
  refine ⟨fun i m H => m = l.length - i ∧ i ≤ l.length ∧ ∃ μ F xs acc, Rel f env μ σ F H ∧ Same F1 F ∧ H A = some (.lst xs) ∧ Reps f.c F xs acc ∧ F A = none ∧ μ A = none ∧ wLcL wg wt we vs (fun acc μ2 => Qp (.fresh (.lst acc)) μ2) env (l.drop i) acc μ,
    ⟨l.length, by simp, Nat.zero_le _, μ1, F1, [], [], rel1.laid hA (soft []).1, Same.refl _, upd_same, .nil, nfA, rel1.mnone hA, q1⟩, ?_⟩
  rintro i m H2 ⟨rfl, hi, μ2, F2, xs, acc, rel2, s2, hA2, rs2, nf2, nm2, q2⟩
  have g2 := rel2.guard hA2 (soft xs).1 nf2 nm2 noA
  obtain ⟨go, stop⟩ := sv (guardF f A (.lst xs)) env μ2 σ F2 H2 rfl g2 s2
  by_cases hlt : i < l.length
  · obtain ⟨go1, go2⟩ := go i hlt
    refine .inr ⟨go1, fun H' => l.length - (i + 1) = l.length - (i + 1) ∧ i + 1 ≤ l.length ∧ ∃ μ F xs acc, Rel f env μ σ F H' ∧ Same F1 F ∧ H' A = some (.lst xs) ∧ Reps f.c F xs acc ∧ F A = none ∧ μ A = none ∧ wLcL wg wt we vs (fun acc μ2 => Qp (.fresh (.lst acc)) μ2) env (l.drop (i + 1)) acc μ,
      fun H' hN => ⟨l.length - (i + 1), by omega, hN⟩, fun x H3 hy => ?_⟩
    obtain ⟨F3, d, hd, rel3, s3, sH, rd⟩ := go2 x H3 hy
    have ed : l.drop i = d :: l.drop (i + 1) := by
      rw [List.drop_eq_getElem_cons hlt]
      rw [List.getElem?_eq_getElem hlt] at hd
      rw [Option.some.inj hd]
    rw [ed] at q2
    refine ⟨upd f.B A (.lst xs), wipeE env vs, μ2, F3, d, _, rel3.wiped vs, rd, q2, fun env4 σ4 rel4 hl4 ag4 q4 => ⟨?_, ?_⟩⟩
    · exact (wipe_same hl4 fun j hj => (ag4 j (fun z => hj (hgs j z))).1).trans (wipe_wipe σ vs)
    · have ag : ∀ j, j ∉ vs → σ4[j]? = σ[j]? ∧ env4[j]? = env[j]? := fun j hj => by
        obtain ⟨a1, a2⟩ := ag4 j (fun z => hj (hgs j z))
        exact ⟨a1.trans (wipe_outσ hj), a2.trans (wipeE_out hj)⟩
      refine ⟨upd f.B A (.lst xs), env4, μ2, F3, _, _, rel4, q4, fun b μ5 F5 H5 rel5 s5 q5 => ?_, fun x μ' cls d F' H' _ _ _ z => z⟩
      cases b with
      | true =>
        refine ⟨upd f.B A (.lst xs), env4, μ5, F5, _, _, rel5, q5, fun r μ6 v6 F6 H6 rel6 s6 rr6 q6 => ?_, fun x μ' cls d F' H' _ _ _ z => z⟩
        obtain ⟨F7, rel7, s7, rz7⟩ := settle rel6 rr6
        obtain ⟨sy, q7⟩ := still_ok rz7 q6
        obtain ⟨w1, w2, w3⟩ := rel7.toFit.watched (soft xs).1 n0A
        have sA : Same F2 F7 := ((s3.trans s5).trans s6).trans s7
        have rel8 : Rel f env μ6 σ F7 H6 := rel2.back rel7 sA (soft xs).1 n0A nbA no ag
        have rs8 : Reps f.c F7 xs acc := Reps.mono sA _ _ rs2
        refine ⟨xs, w1, by rw [rs2.len]; exact q7.1, rfl, hlt, μ6, F7, xs ++ [v6], acc ++ [r.d], rel8.touch w1 (soft xs) w2 nbA w3 noA, s2.trans sA, upd_same, rs8.app (.one sy), w2, w3, q7.2⟩
      | false =>
        obtain ⟨w1, w2, w3⟩ := rel5.toFit.watched (soft xs).1 n0A
        have sA : Same F2 F5 := s3.trans s5
        exact ⟨rfl, hlt, μ5, F5, xs, acc, rel2.back rel5 sA (soft xs).1 n0A nbA no ag, s2.trans sA, w1, Reps.mono sA _ _ rs2, w2, w3, q5⟩
  · have ei : i = l.length := by omega
    subst ei
    refine .inl ⟨stop, ?_⟩
    rw [List.drop_length] at q2
    exact k (.fresh (.lst acc)) μ2 (.ref A) F2 H2 rel2 (e1.trans s2) ⟨A, rfl, nf2, nbA, nm2, noA, xs, hA2, rs2⟩ q2
theorem px_lc {scope : Scope} {own : List (Str × Nat)} {wi : WI} {wg : WG} {gs : List Nat} {we : WE} (hc : X.calm = true) (hN : X.N.Nodup) (hi : PXI X f W tg iter wi) (ok : BlkOk X.N X.env.scope scope own) (hgs : ∀ i ∈ gs, i ∈ own.map (·.2))
    (hg : ∀ (s : Shared) (H : Hp) (C : Addr) (cl : List (Str × Addr)) (fp : List Addr) (B : Hp), PXG (X.blk s H scope (compEnvC scope cl C X.env) fp) ⟨f.c, B, f.F0⟩ tg wg gs)
    (ht : ∀ (s : Shared) (H : Hp) (C : Addr) (cl : List (Str × Addr)) (fp : List Addr), PXTs (X.blk s H scope (compEnvC scope cl C X.env) fp) f ifs wt)
    (he : ∀ (s : Shared) (H : Hp) (C : Addr) (cl : List (Str × Addr)) (fp : List Addr) (B : Hp), PX (X.blk s H scope (compEnvC scope cl C X.env) fp) ⟨f.c, B, f.F0⟩ (fun _ _ _ _ => False) elt we) (hs : ∀ x, foldedSetIterable iter X.env x = pure x := by intro _; rfl) :
    PX X f W (.ListComp elt [⟨tg, iter, ifs, 0⟩] scope pos) (wLc wi wg wt we (own.map (·.2))) :=
  pe_imp (pe_lc hc hN hi ok (fun s H C cl fp => pg_any (hg s H C cl fp)) (fun s H C cl fp => ht s H C cl fp) (fun s H C cl fp => pe_any (he s H C cl fp)) hs) fun σ H Q h => lc_ok hgs σ H Q h
theorem px_setLc {i : Nat} {y : Str} {py spos : Pos} {scope : Scope} {own : List (Str × Nat)} {wi : WI} {wg : WG} {gs : List Nat} {we : WE} (hc : X.calm = true) (hN : X.N.Nodup) (hy : X.N[i]? = some y) (hyl : X.env.scope.names.lookup y = some .local)
    (hsw : swapsWith (.ListComp elt [⟨tg, iter, ifs, 0⟩] scope pos) (some (.Name y py)) spos.line X.env = pure true) (hi : PXI X f W tg iter wi) (ok : BlkOk X.N X.env.scope scope own) (hgs : ∀ i ∈ gs, i ∈ own.map (·.2))
    (hg : ∀ (s : Shared) (H : Hp) (C : Addr) (cl : List (Str × Addr)) (fp : List Addr) (B : Hp), PXG (X.blk s H scope (compEnvC scope cl C X.env) fp) ⟨f.c, B, f.F0⟩ tg wg gs)
    (ht : ∀ (s : Shared) (H : Hp) (C : Addr) (cl : List (Str × Addr)) (fp : List Addr), PXTs (X.blk s H scope (compEnvC scope cl C X.env) fp) f ifs wt)
    (he : ∀ (s : Shared) (H : Hp) (C : Addr) (cl : List (Str × Addr)) (fp : List Addr) (B : Hp), PX (X.blk s H scope (compEnvC scope cl C X.env) fp) ⟨f.c, B, f.F0⟩ (fun _ _ _ _ => False) elt we) (hs : ∀ x, foldedSetIterable iter X.env x = pure x := by intro _; rfl) :
    PXS X f W (.Assign [.Name y py] (.ListComp elt [⟨tg, iter, ifs, 0⟩] scope pos) spos) (wAsg i (wLc wi wg wt we (own.map (·.2)))) :=
  ps_imp (ps_setLc hc hN hy hyl hsw hi ok (fun s H C cl fp => pg_any (hg s H C cl fp)) (fun s H C cl fp => ht s H C cl fp) (fun s H C cl fp => pe_any (he s H C cl fp)) hs) fun D σ H h => lc_ok hgs σ H _ (asg_ok h)
theorem px_setLcO {i : Nat} {y : Str} {py spos : Pos} {scope : Scope} {own : List (Str × Nat)} {wi : WI} {wg : WG} {gs : List Nat} {we : WE} (hc : X.calm = true) (hN : X.N.Nodup) (hy : X.N[i]? = some y) (hyl : X.env.scope.names.lookup y = some .local)
    (hsw : swapsWith (.ListComp elt [⟨tg, iter, ifs, 0⟩] scope pos) (some (.Name y py)) spos.line X.env = pure true) (hi : PXI X f W tg iter wi) (ok : BlkOk X.N X.env.scope scope own) (hgs : ∀ i ∈ gs, i ∈ own.map (·.2))
    (hg : ∀ (s : Shared) (H : Hp) (C : Addr) (cl : List (Str × Addr)) (fp : List Addr) (B : Hp), PXG (X.blk s H scope (compEnvC scope cl C X.env) fp) ⟨f.c, B, f.F0⟩ tg wg gs)
    (ht : ∀ (s : Shared) (H : Hp) (C : Addr) (cl : List (Str × Addr)) (fp : List Addr), PXTs (X.blk s H scope (compEnvC scope cl C X.env) fp) f ifs wt)
    (he : ∀ (s : Shared) (H : Hp) (C : Addr) (cl : List (Str × Addr)) (fp : List Addr) (B : Hp), PX (X.blk s H scope (compEnvC scope cl C X.env) fp) ⟨f.c, B, f.F0⟩ (fun _ _ _ _ => False) elt we) (hs : ∀ x, foldedSetIterable iter X.env x = pure x := by intro _; rfl) :
    PXS X f W (.Assign [.Name y py] (.ListComp elt [⟨tg, iter, ifs, 0⟩] scope pos) spos) (wAsgO i (wLc wi wg wt we (own.map (·.2)))) :=
  ps_imp (ps_setLc hc hN hy hyl hsw hi ok (fun s H C cl fp => pg_any (hg s H C cl fp)) (fun s H C cl fp => ht s H C cl fp) (fun s H C cl fp => pe_any (he s H C cl fp)) hs) fun D σ H h => lc_ok hgs σ H _ (asgO_ok h)
end
end PD
set_option Elab.async false
set_option linter.all false
set_option maxRecDepth 100000
set_option maxHeartbeats 2000000
/-! PD9: defs and their calls; lists that a slot alone holds. -/
namespace PD
open PySem PySem.Spec L2
abbrev SpD := List D → Mu → (R → Mu → Prop) → (Exc → Mu → Prop) → Prop
/-- a def's plain promise, over the heap -/
def spOf (c : Cfg) (sp : SpD) : Sp := fun vs H Q E => ∃ ds μ F0 B Qp Ep, Reps c F0 vs ds ∧ Fit ⟨c, B, F0⟩ μ F0 H ∧ (∀ b o, H b = some o → μ b = none → (∀ ps, o ≠ .tbl ps) → B b = some o) ∧ sp ds μ Qp Ep ∧
  (∀ r μ' v F' H', Fit ⟨c, B, F0⟩ μ' F' H' → RR ⟨c, B, F0⟩ [] μ' [] F' H' v r → Qp r μ' → Q v H') ∧
  (∀ x μ' cls d F' H', Fit ⟨c, B, F0⟩ μ' F' H' → XR c F' H' x cls d → Ep x μ' → E cls d H')
section
variable {X : Cx} {f : Fm} {W : WX} {e a b cc tg iter elt o : Expr} {es rest ifs : List Expr} {wa wb wc w : WE} {wr wk : WA} {wt wt' wu : WT} {pos : Pos} {env : Ev} {μ : Mu} {σ : L2.St} {F F' H : Hp} {x : Str} {p : Pos} {st : Stmt} {ss : List Stmt} {ws ws' : WS} {n : En} {Dn : Ends} {sp : SpD} {ds dd : List D} {vs : List V}
/-- all that stands, but what changes -/
def entryB (μ : Mu) (H : Hp) : Hp := fun b => if (μ b).isSome then none else match H b with
  | some (.tbl _) => none
  | o => o
theorem entryB_some {b : Addr} {o : HO} (h : entryB μ H b = some o) : H b = some o ∧ μ b = none ∧ ∀ ps, o ≠ .tbl ps := by
  unfold entryB at h
  cases q : μ b with
  | some m =>
    rw [q] at h
    cases h
  | none =>
    rw [q] at h
    cases e : H b with
    | none =>
      simp only [e] at h
      cases h
    | some u =>
      cases u <;> simp only [e, Option.isSome_none, Bool.false_eq_true, if_false, Option.some.injEq, reduceCtorEq] at h <;> subst h <;> exact ⟨rfl, rfl, fun ps z => by cases z⟩
theorem entryB_of {b : Addr} {o : HO} (h : H b = some o) (m : μ b = none) (nt : ∀ ps, o ≠ .tbl ps) : entryB μ H b = some o := by
  unfold entryB
  rw [m]
  cases o <;> simp only [h, Option.isSome_none, Bool.false_eq_true, if_false]
  exact absurd rfl (nt _)
theorem entryB_mu {a : Addr} {m : MO} (h : μ a = some m) : entryB μ H a = none := by
  unfold entryB
  rw [h]
  rfl
theorem Fit.entry (q : Fit f μ F H) : Fit ⟨f.c, entryB μ H, F⟩ μ F H where
  bh := fun b o h => (entryB_some h).1
  bn := fun b ps h => (entryB_some h).2.2 ps rfl
  f0 := Same.refl _
  fh := q.fh
  fb := fun b o h => .inl h
  ft := q.ft
  mu := fun a m h => by
    obtain ⟨h1, h2, h3⟩ := q.mu a m h
    exact ⟨h1, entryB_mu h, h3⟩
  tb := q.tb
/-- what the caller's caller had is among it -/
theorem Fit.entryB_of (q : Fit f μ F H) {b : Addr} {o : HO} (h : f.B b = some o) : entryB μ H b = some o :=
  PD.entryB_of (q.bh b o h) (by
    cases e : μ b with
    | none => rfl
    | some m =>
      obtain ⟨_, z, _⟩ := q.mu b m e
      rw [h] at z
      cases z) fun ps e => q.bn b ps (by rw [h, e])
/-- behind a call, the caller's state -/
theorem Fit.bNone {μ' : Mu} {F' H' : Hp} (q : Fit f μ F H) {b : Addr} (h : entryB μ H b = none) : f.B b = none := by
  cases e : f.B b with
  | none => rfl
  | some o =>
    rw [q.entryB_of e] at h
    cases h
theorem Rel.behind {μ' : Mu} {F' H' : Hp} (q : Rel f env μ σ F H) (h : Fit ⟨f.c, entryB μ H, F⟩ μ' F' H') : Rel f env μ' σ F' H' where
  bh := fun b o hb => h.bh b o (q.toFit.entryB_of hb)
  bn := q.bn
  f0 := q.f0.trans h.f0
  fh := h.fh
  fb := fun b o hb => by
    rcases h.fb b o hb with z | z
    · exact q.fb b o z
    · exact .inr (q.toFit.bNone (μ' := μ') (F' := F') (H' := H') z)
  ft := h.ft
  mu := fun a m ha => by
    obtain ⟨h1, h2, h3⟩ := h.mu a m ha
    exact ⟨h1, q.toFit.bNone (μ' := μ') (F' := F') (H' := H') h2, h3⟩
  tb := h.tb
  len := q.len
  dj := q.dj
  sl := fun i sv hs => by
    cases sv with
    | val d =>
      obtain ⟨v, h1, h2⟩ := q.sl i _ hs
      exact ⟨v, h1, Rep.mono h.f0 _ _ h2⟩
    | own k =>
      obtain ⟨a, h1, h2, h3, h4, h5⟩ := q.sl i _ hs
      obtain ⟨o, ho, nt⟩ := h5.there
      have hB : entryB μ H a = some o := PD.entryB_of ho h4 nt
      have hH' : H' a = some o := h.bh a o hB
      refine ⟨a, h1, ?_, h3, ?_, h5.stay h.f0 fun o' q' => by rw [ho] at q'; rw [← q']; exact hH'⟩
      · cases e : F' a with
        | none => rfl
        | some u =>
          rcases h.fb a u e with z | z
          · have z' : F a = some u := z
            rw [h2] at z'
            cases z'
          · have z' : entryB μ H a = none := z
            rw [hB] at z'
            cases z'
      · cases e : μ' a with
        | none => rfl
        | some m =>
          obtain ⟨_, z, _⟩ := h.mu a m e
          have z' : entryB μ H a = none := z
          rw [hB] at z'
          cases z'
theorem rr_behind {μ' : Mu} {F' H' : Hp} {v : V} {r : R} (q : Rel f env μ σ F H) (h : Fit ⟨f.c, entryB μ H, F⟩ μ' F' H') (rr : RR ⟨f.c, entryB μ H, F⟩ [] μ' [] F' H' v r) : RR f env μ' σ F' H' v r := by
  cases r with
  | fz d => exact rr
  | bor i k =>
    obtain ⟨h1, _⟩ := rr
    simp at h1
  | fresh k =>
    obtain ⟨a, rfl, h1, h2, h3, _, h5⟩ := rr
    have hB : entryB μ H a = none := h2
    refine ⟨a, rfl, h1, q.toFit.bNone (μ' := μ') (F' := F') (H' := H') hB, h3, fun i k' hi z => ?_, h5⟩
    obtain ⟨a', g1, g2, g3, g4, g5⟩ := q.sl i _ hi
    rw [z] at g1
    cases g1
    obtain ⟨o, ho, nt⟩ := g5.there
    rw [PD.entryB_of ho g4 nt] at hB
    cases hB
/-! ### calls -/
def wCall (sp : SpD) (dd : List D) (wr : WA) : WE := fun env μ Q E => wr env μ (fun ds μ1 => sp (ds ++ dd) μ1 Q E) E
/-- what the promise wants, from the caller's state -/
theorem sp_of {Q : VK} {Qp : R → Mu → Prop} {Ep : Exc → Mu → Prop} (q : Rel f env μ σ F H) (r : Reps f.c F vs ds) (h : sp ds μ Qp Ep)
    (k : ∀ r μ' v F' H', Rel f env μ' σ F' H' → Same F F' → RR f env μ' σ F' H' v r → Qp r μ' → Q v H')
    (kx : ∀ x μ' cls d F' H', Rel f env μ' σ F' H' → Same F F' → XR f.c F' H' x cls d → Ep x μ' → W cls d σ H') : spOf f.c sp vs H Q (L2.WE W σ) :=
  ⟨ds, μ, F, entryB μ H, Qp, Ep, r, q.toFit.entry, fun b o ho hm nt => PD.entryB_of ho hm nt, h, fun r μ' v F' H' hf rr qq => k r μ' v F' H' (q.behind hf) hf.f0 (rr_behind q hf rr) qq,
    fun x μ' cls d F' H' hf xr qq => kx x μ' cls d F' H' (q.behind hf) hf.f0 xr qq⟩
theorem px_call {k : Nat} {g : Addr} {fd : FuncData} {ps : List Str} {dvs : List V} {dsv : List Value} (G : FnOk X.prog X.w X.K X.mg X.base (L2.CX X.prog X.w) k g fd ps (spOf f.c sp)) (hr : Room k X.A) (hg : Gl X x) (hm : X.mg x = some (.ref g)) (hk : PySem.W.keepIn X.K (.ref g) = true)
    (hb : Binds X.K fd ps dsv) (hd : Vals dvs dsv) (hdd : ∀ F, Reps f.c F dvs dd) (tk : Takes X W) (ha : PXA X f W (e :: es) wr) (hdb : (x == ("__debug__" : Str)) = false := by decide) (he : starEach (e :: es) X.env = (false, eval e X.env) :: starEach es X.env := by rfl)
    (hpl : (backTo pos (starEach es X.env)).any (·.1) = false := by rfl) : PX X f W (.Call (.Name x p) (e :: es) [] pos) (wCall sp dd wr) :=
  pe_imp (pe_callSD G hr hg hm hk hb hd (fun σ => passAt tk σ) ha hdb he hpl) fun σ H Q h => by
    obtain ⟨env, μ, F, Qp, Ep, rel, hw, k, kx⟩ := h
    refine ⟨env, μ, F, _, Ep, rel, hw, fun ds μ1 vs F1 H1 rel1 e1 r1 q1 => ?_, kx⟩
    exact sp_of rel1 (r1.app (hdd F1)) q1 (fun r μ2 v F2 H2 rel2 e2 rr2 q2 => k r μ2 v F2 H2 rel2 (e1.trans e2) rr2 q2) fun x μ2 cls d F2 H2 rel2 e2 xr q2 => kx x μ2 cls d F2 H2 rel2 (e1.trans e2) xr q2
/-- keywords -/
structure KBd (K : PySem.W.Frag) (fd : FuncData) (ps : List Str) (n : Nat) (ks : List Str) (g : List Value → List Value → List Value) (gV : List V → List V → List V) (gD : List D → List D → List D) : Prop extends KBn K fd ps n ks g gV where
  reps : ∀ (c : Cfg) (F : Hp) (vs zs : List V) (ds es : List D), Reps c F vs ds → Reps c F zs es → Reps c F (gV vs zs) (gD ds es)
def wCallK (sp : SpD) (n m : Nat) (gD : List D → List D → List D) (wr wk : WA) : WE := fun env μ Q E => wr env μ (fun ds μ1 => wk env μ1 (fun es μ2 => ds.length = n ∧ es.length = m ∧ sp (gD ds es) μ2 Q E) E) E
theorem run_kw {CX : CXT} {k n : Nat} {g : Addr} {fd : FuncData} {ps ks : List Str} {spv : Sp} {gg : List Value → List Value → List Value} {gV : List V → List V → List V} {E : XK} {pins : List (Addr × Obj)} {s : Shared} {Q : VK} {us wz : List Value} {zs : List V}
    (G : FnOk X.prog X.w X.K X.mg X.base CX k g fd ps spv) (hr : Room k X.A) (hb : KBn X.K fd ps n ks gg gV) (hx : PassesAt CX X σ E) (I : Inv X pins σ H s) (r : Vals vs us) (rz : Vals zs wz) (l1 : vs.length = n) (l2 : zs.length = ks.length) (h : spv (gV vs zs) H Q E) :
    wpAny (model X.prog X.w) X.A (call (.ref g) us (ks.zip wz)) (EP X pins σ Q) X.xe s := by
  have both := hb.rel r rz
  have bind := hb.to s us wz I.kIn (r.length.symm.trans l1) (rz.length.symm.trans l2)
  refine wpAny_call (codeAny_mono (G.run X.A X.stack s H ⟨us, ks.zip wz⟩ _ _ Q E hr I.env0 bind both h) fun res s' hq => ?_)
  rcases res with er | fl
  · exact hx pins H s er s' I hq
  · cases fl <;> first | exact I.after hq | exact False.elim hq
theorem px_callK {k n : Nat} {g : Addr} {fd : FuncData} {ps ks : List Str} {kws : List Keyword} {gg : List Value → List Value → List Value} {gV : List V → List V → List V} {gD : List D → List D → List D} (G : FnOk X.prog X.w X.K X.mg X.base (L2.CX X.prog X.w) k g fd ps (spOf f.c sp)) (hr : Room k X.A) (hg : Gl X x)
    (hm : X.mg x = some (.ref g)) (hk : PySem.W.keepIn X.K (.ref g) = true) (hb : KBd X.K fd ps n ks gg gV gD) (tk : Takes X W) (ha : PXA X f W (e :: es) wr) (hkw : PK X kws (La f W wk)) (hall : (backToKw pos (keywordEach kws X.env)).all (·.1.isSome) = true := by rfl)
    (hks : (backToKw pos (keywordEach kws X.env)).filterMap (·.1) = ks := by rfl) (hdb : (x == ("__debug__" : Str)) = false := by decide) (he : starEach (e :: es) X.env = (false, eval e X.env) :: starEach es X.env := by rfl)
    (hpl : ((backTo pos (starEach (e :: es) X.env)).any (·.1) || (backToKw pos (keywordEach kws X.env)).any (·.1.isNone)) = false := by rfl) : PX X f W (.Call (.Name x p) (e :: es) kws pos) (wCallK sp n ks.length gD wr wk) := by
  refine ⟨fun pins s σ H Q I h => ?_⟩
  obtain ⟨env, μ, F, Qp, Ep, rel, hw, k, kx⟩ := h
  have go : La f W wr σ H fun vs H1 => La f W wk σ H1 fun zs H2 => vs.length = n ∧ zs.length = ks.length ∧ spOf f.c sp (gV vs zs) H2 Q (L2.WE W σ) := by
    refine ⟨env, μ, F, _, Ep, rel, hw, fun ds μ1 vs F1 H1 rel1 e1 r1 q1 => ?_, kx⟩
    refine ⟨env, μ1, F1, _, Ep, rel1, q1, fun es μ2 zs F2 H2 rel2 e2 r2 q2 => ?_, fun x μ2 cls d F2 H2 rel2 e2 xr q2 => kx x μ2 cls d F2 H2 rel2 (e1.trans e2) xr q2⟩
    exact ⟨by rw [r1.len]; exact q2.1, by rw [r2.len]; exact q2.2.1, sp_of rel2 (hb.reps _ _ _ _ _ _ (Reps.mono e2 _ _ r1) r2) q2.2.2 (fun r μ3 v F3 H3 rel3 e3 rr3 q3 => k r μ3 v F3 H3 rel3 ((e1.trans e2).trans e3) rr3 q3)
      fun x μ3 cls d F3 H3 rel3 e3 xr q3 => kx x μ3 cls d F3 H3 rel3 ((e1.trans e2).trans e3) xr q3⟩
  refine wpAny_Call_Name_kw (ld_glob I hg hm ?_ hdb)
  refine PySem.W.callWith_KW (h₀ := X.base) I.ok.mod.kin hk hall (thn (ha.run pos pins s σ H _ I go) fun us s1 hv => ?_) hpl he
  obtain ⟨vs, H1, I1, r, q⟩ := hv
  refine thn (hkw.run pos pins s1 σ H1 _ I1 q) fun wz s2 hz => ?_
  obtain ⟨zs, H2, I2, rz, l1, l2, q2⟩ := hz
  refine ⟨I2.kIn, ?_⟩
  rw [hks]
  exact run_kw G hr hb.toKBn (passAt tk σ) I2 r rz l1 l2 q2
theorem pk_imp {kws : List Keyword} {t t' : TA} (h : PK X kws t) (i : ∀ σ H Q, t' σ H Q → t σ H Q) : PK X kws t' := ⟨fun pos pins s σ H Q I q => h.run pos pins s σ H Q I (i _ _ _ q)⟩
theorem px_knil : PK X [] (La f W wNil) := pk_imp pk_nil fun σ H Q h => by
  obtain ⟨env, μ, F, Qp, Ep, rel, hw, k, kx⟩ := h
  exact k [] μ [] F H rel (Same.refl _) .nil hw
theorem px_kcons {nm : Option Str} {kpos : Pos} {kws : List Keyword} (ha : PX X f W e wa) (hr : PK X kws (La f W wk)) : PK X (⟨nm, e, kpos⟩ :: kws) (La f W (wCons wa wk)) := pk_imp (pk_cons ha hr) fun σ H Q h => by
  obtain ⟨env, μ, F, Qp, Ep, rel, hw, k, kx⟩ := h
  refine ⟨env, μ, F, _, Ep, rel, hw, fun r1 μ1 v1 F1 H1 rel1 e1 rr1 q1 => ?_, kx⟩
  obtain ⟨F1', rel1', e1', rz1⟩ := settle rel1 rr1
  obtain ⟨s1, q1'⟩ := still_ok rz1 q1
  refine ⟨env, μ1, F1', _, Ep, rel1', q1', fun ds μ2 vs F2 H2 rel2 e2 rr2 q2 => ?_, fun x μ2 cls d F2 H2 rel2 e2 xr q2 => kx x μ2 cls d F2 H2 rel2 ((e1.trans e1').trans e2) xr q2⟩
  exact k (r1.d :: ds) μ2 (v1 :: vs) F2 H2 rel2 ((e1.trans e1').trans e2) (.cons (Rep.mono e2 _ _ s1) rr2) q2
/-! ### a def -/
def startE (N : List Str) (ds : List D) : Ev := ds.map (fun d => some (.val d)) ++ List.replicate (N.length - ds.length) none
def R.out : R → R
  | .bor _ k => .fresh k
  | r => r
/-- what a def's body is to reach -/
def endsOf (Qp : R → Mu → Prop) (Ep : Exc → Mu → Prop) : En := ⟨fun _ μ => Qp (.fz .non) μ, fun r μ => Qp r.out μ, fun _ _ => False, fun _ _ => False, Ep⟩
theorem start_get {N : List Str} {vs : List V} {i : Nat} {v : V} (h : vs[i]? = some v) : (L2.start N vs)[i]? = some (some v) := by
  unfold L2.start
  rw [List.getElem?_append_left (by rw [List.length_map]; exact (List.getElem?_eq_some_iff.mp h).1), List.getElem?_map, h]
  rfl
theorem rel_start {N : List Str} (q : Fit f μ F H) (r : Reps f.c F vs ds) : Rel f (startE N ds) μ (L2.start N vs) F H :=
  have key : ∀ (i : Nat) (sv : SV), (startE N ds)[i]? = some (some sv) → ∃ d, sv = .val d ∧ ds[i]? = some d := fun i sv h => by
    unfold startE at h
    by_cases hi : i < ds.length
    · rw [List.getElem?_append_left (by rw [List.length_map]; exact hi), List.getElem?_map, List.getElem?_eq_getElem hi] at h
      have h' := Option.some.inj (Option.some.inj h)
      exact ⟨ds[i], h'.symm, List.getElem?_eq_getElem hi⟩
    · rw [List.getElem?_append_right (by rw [List.length_map]; omega)] at h
      rw [List.getElem?_replicate] at h
      split at h <;> cases h
  { q with
    len := by
      unfold startE L2.start
      simp [r.len]
    dj := fun i j k k' a h1 _ _ _ => by
      obtain ⟨d, z, _⟩ := key i _ h1
      cases z
    sl := fun i sv h => by
      obtain ⟨d, z, hd⟩ := key i _ h
      subst z
      obtain ⟨v, h1, h2⟩ := r.get hd
      exact ⟨v, start_get h1, h2⟩ }
theorem body_ok {c : Cfg} {E : XK} {Q : VK} {N : List Str} {t : TS} (h : spOf c sp vs H Q E)
    (hb : ∀ (f : Fm), f.c = c → ∀ ds μ Qp Ep, sp ds μ Qp Ep → ws (endsOf Qp Ep) (startE N ds) μ) : ∃ f : Fm, f.c = c ∧ Ls f (fun cls d _ H => E cls d H) ws { nx := fun _ H' => Q .non H', rt := Q } (L2.start N vs) H := by
  obtain ⟨ds, μ, F0, B, Qp, Ep, r, fit, _, hs, k, kx⟩ := h
  refine ⟨⟨c, B, F0⟩, rfl, startE N ds, μ, F0, _, rel_start fit r, hb ⟨c, B, F0⟩ rfl ds μ Qp Ep hs, ?_⟩
  refine ⟨fun env' μ' σ' F' H' rel s q => k (.fz .non) μ' .non F' H' rel.toFit Rep.non q, fun _ _ _ _ _ _ _ q => q.elim, fun _ _ _ _ _ _ _ q => q.elim, fun r env' μ' σ' v F' H' rel s rr q => k r.out μ' v F' H' rel.toFit ?_ q,
    fun x env' μ' σ' cls d F' H' rel s xr q => kx x μ' cls d F' H' rel.toFit xr q⟩
  cases r with
  | fz d => exact rr
  | fresh kk =>
    obtain ⟨a, h1, h2, h3, h4, _, h6⟩ := rr
    exact ⟨a, h1, h2, h3, h4, fun i k' z => by simp at z, h6⟩
  | bor i kk =>
    obtain ⟨h1, h2⟩ := rr
    obtain ⟨a, g1, g2, g3, g4, g5⟩ := rel.sl i _ h1
    rw [h2] at g1
    cases g1
    exact ⟨a, rfl, g2, g3, g4, fun i k' z => by simp at z, g5⟩
end
section
variable {P : Program} {w : World} {K : PySem.W.Frag} {mg : Str → Option Value} {base : Heap} {sp : SpD} {N ps : List Str} {k : Nat} {c : Cfg} {g : Addr} {fd : FuncData} {x qual : Str} {st : Stmt}
/-- a def's body: the derivation in every frame, then the plain reading -/
def BodyOk (P : Program) (w : World) (K : PySem.W.Frag) (mg : Str → Option Value) (base : Heap) (k : Nat) (N : List Str) (qual : Str) (scope : Scope) (g : Addr) (body : List Stmt) (c : Cfg) (sp : SpD) : Prop :=
  ∃ w' : WS, (∀ (cdv : Value) (A : Around) (outer : List Env) (s : Shared) (H : Hp) (E : XK) (B F0 : Hp), Room k (A.deeper (PyProof.Rows.envOfC qual scope s.heap.objs.size g cdv)) →
      PXSs (cxOf (L2.CX P w) P w K mg base N qual scope g cdv A outer s H E) ⟨c, B, F0⟩ (fun cls d _ H => E cls d H) body w') ∧
    ∀ ds μ Qp Ep, sp ds μ Qp Ep → w' (endsOf Qp Ep) (startE N ds) μ
theorem sp_len (hl : ∀ ds μ Q E, sp ds μ Q E → ds.length = ps.length) : ∀ vs H Q E, spOf c sp vs H Q E → vs.length = ps.length := fun vs H Q E h => by
  obtain ⟨ds, μ, F0, B, Qp, Ep, r, _, _, hs, _⟩ := h
  rw [r.len]
  exact hl _ _ _ _ hs
theorem def_ok (F : Fun K x qual st g fd) (S : FnScope N ps (defScope st)) (hl : ∀ ds μ Q E, sp ds μ Q E → ds.length = ps.length) (hb : BodyOk P w K mg base k N qual (defScope st) g (defBody st) c sp) : FnOk P w K mg base (L2.CX P w) (k + 1) g fd ps (spOf c sp) := by
  obtain ⟨w', h1, h2⟩ := hb
  refine F.okX S (sp_len hl) fun cdv A outer s H vs Q E hr h => ?_
  obtain ⟨f, ec, hq⟩ := body_ok (ws := w') (N := N) (t := L2.tNext) h fun _ _ => h2
  obtain ⟨c', B, F0⟩ := f
  obtain rfl : c' = c := ec
  exact ⟨_, h1 cdv A outer s H E B F0 hr, hq⟩
theorem defD_ok {dvs : List V} {kws : List (Str × V)} (F : FunD K x qual (defArgs st) (defBody st) (defScope st) dvs kws g fd) (S : FnScope N ps (defScope st)) (hl : ∀ ds μ Q E, sp ds μ Q E → ds.length = ps.length) (hb : BodyOk P w K mg base k N qual (defScope st) g (defBody st) c sp) :
    FnOk P w K mg base (L2.CX P w) (k + 1) g fd ps (spOf c sp) := by
  obtain ⟨w', h1, h2⟩ := hb
  refine F.ok S (sp_len hl) fun cdv A outer s H vs Q E hr h => ?_
  obtain ⟨f, ec, hq⟩ := body_ok (ws := w') (N := N) (t := L2.tNext) h fun _ _ => h2
  obtain ⟨c', B, F0⟩ := f
  obtain rfl : c' = c := ec
  exact ⟨_, h1 cdv A outer s H E B F0 hr, hq⟩
end
end PD
set_option Elab.async false
set_option linter.all false
set_option maxRecDepth 100000
set_option maxHeartbeats 2000000
/-! PD10: refusals made and raised. -/
namespace PD
open PySem PySem.Spec L2
section
variable {X : Cx} {o e : Expr} {es : List Expr} {ta : TE} {t : TA} {m x : Str} {p pos apos : Pos} {pl : Sem Bool}
/-- C.m(e, ..), m a def of the class at C, read off the class itself -/
theorem pe_clsFn {CX : CXT} {k : Nat} {C g : Addr} {mc : Value} {fd : FuncData} {ps : List Str} {sp : Sp} {E : XK} (he : PE X o ta) (r : ClX.CRead X.K C mc) (c : PySem.W.findCls X.K (.ref C) mc m = some (.val (.ref g))) (hk : PySem.W.keepIn X.K (.ref g) = true)
    (G : FnOk X.prog X.w X.K X.mg X.base CX k g fd ps sp) (hr : Room k X.A) (hb : Binds X.K fd ps []) (hx : Passes CX X E) (ha : PA X (e :: es) t) (hst : starEach (e :: es) X.env = (false, eval e X.env) :: starEach es X.env := by rfl) (hpl : (backTo pos (starEach es X.env)).any (·.1) = false := by rfl)
    (ht : eval (.Call (.Attribute o m apos) (e :: es) [] pos) X.env = (do
      let whole ← eval o X.env
      standAt apos.atName
      let (h, first) ← holding [whole] (getMethod whole m pl)
      callWith pos h first (backTo pos (starEach (e :: es) X.env)) (backToKw pos (keywordEach [] X.env))) := by rfl) :
    PE X (.Call (.Attribute o m apos) (e :: es) [] pos) (fun σ H Q => ta σ H fun x H1 => x = .ref C ∧ t σ H1 fun vs H2 => sp vs H2 Q E) := by
  refine ⟨fun pins s σ H Q I h => ?_⟩
  refine PySem.W.methodCall_KW (pl := pl) (thn (he.run pins s σ H _ I h) fun u s1 hu => ?_) ht
  obtain ⟨y, H1, I1, ry, ey, q⟩ := hu
  subst ey
  obtain rfl : u = Value.ref C := ry
  refine PySem.W.method_cls I1.kIn r.ga (PySem.W.cls_value I1.kIn r.rd c (handed_of (v := .ref g) rfl) ?_)
  refine PySem.W.callWith_K (h₀ := X.base) I1.ok.mod.kin hk (thn (ha.run pos pins _ σ H1 _ (I1.tok _) q) fun us s2 hs => ?_) hst hpl
  obtain ⟨vs, H2, I2, rv, q2⟩ := hs
  exact ⟨I2.kIn, run_fn G hr hb .nil hx I2 (by simpa using rv) (by simpa using q2)⟩
/-- C(), C an own class of refusals with an __init__ of its own -/
theorem pmk_zero {CX : CXT} {C fI : Addr} {k : Nat} {fd : FuncData} {ps : List Str} {sp : Sp} (T : OexC X.K C) (iC : PySem.W.findIn X.K (.ref C) "__init__" = some (some (.ref fI))) (tI : PySem.W.typeIn X.K (.ref fI) = some (.type "function"))
    (G : FnOk X.prog X.w X.K X.mg X.base CX k fI fd ps sp) (hr : Room (k + 1) X.A) (hb : Binds X.K fd ps []) (hx : Passes CX X (fun _ _ _ => False)) (hg : Gl X x) (hm : X.mg x = some (.ref C)) (hdb : (x == ("__debug__" : Str)) = false := by decide) :
    PMk X (.Call (.Name x p) [] [] pos) (tMkO C sp [] tNil) := by
  intro pins s σ H Q I h
  obtain ⟨-, h⟩ := h
  obtain ⟨nm, q, N, bs, bm, sn, sub, ab, col, dd, k0, k1, k2, k3, k5, hC, hbm⟩ := T.cls
  refine wpAny_Call_Name_kw (ld_glob I hg hm (PySem.W.callWith_K0 I.kIn T.kC ?_) hdb)
  show wpAny _ _ (call (.ref C) []) _ _ _
  rcases s with ⟨hp, gs, dr, tk, os⟩
  have up : hp.objs.size ≤ hp.objs.size + 1 := Nat.le_succ _
  have free : H (hp.objs.size + 1) = none := I.hok.fresh up
  have want := h (hp.objs.size + 1) free
  have stay : ∀ b o, hp.get? b = some o → ((hp.push (PySem.W.kdv_tup [])).push (PySem.HandSPX.excO C hp.objs.size)).get? b = some o := fun b o z => Heap.get?_push_of_some _ (Heap.get?_push_of_some _ z)
  have made : ((hp.push (PySem.W.kdv_tup [])).push (PySem.HandSPX.excO C hp.objs.size)).get? (hp.objs.size + 1) = some (PySem.HandSPX.excO C hp.objs.size) := by heap_get
  have J : Inv X pins σ (upd H (hp.objs.size + 1) (exo (hp.objs.size + 1) C none)) ⟨(hp.push (PySem.W.kdv_tup [])).push (PySem.HandSPX.excO C hp.objs.size), gs, dr, tk, os⟩ :=
    I.laid (t' := tk) (a := hp.objs.size + 1) (o := exo (hp.objs.size + 1) C none) (h' := (hp.push (PySem.W.kdv_tup [])).push (PySem.HandSPX.excO C hp.objs.size)) stay up (exo_ok made)
  have rv : Vals [V.ref (hp.objs.size + 1)] [Value.ref (hp.objs.size + 1)] := .cons rfl .nil
  have len : ([Value.ref (hp.objs.size + 1)] ++ []).length = ps.length := by
    have z := G.len _ _ _ _ want
    simpa using z
  refine wpAny_call (PySem.HandSPX.call_own F.excBase_ValueError (fun Y => PySem.HandSPX.refsVE_contains Y bm hbm) (I.kIn _ _ hC) (PySem.W.looks_findIn I.kIn iC) (fun self => PySem.W.bind_fn I.kIn self tI) (by simp)
    (codeAny_mono (G.run _ X.stack _ _ ⟨[Value.ref (hp.objs.size + 1)], []⟩ ([Value.ref (hp.objs.size + 1)] ++ []) _ _ (fun _ _ _ => False) (hr.make C [] []) (J.env0.make C [] []) (hb _ [Value.ref (hp.objs.size + 1)] J.kIn len) (by simpa using rv) want) fun r s' hr' => ?_))
  rcases r with er | fl
  · exact hx pins σ _ _ er s' J hr'
  · cases fl <;> first | exact False.elim hr' | skip
    obtain ⟨v, H2, os2, bare2, un2, hok2, rvv, ev, d, fs, ea, ed, hd1, q2⟩ := hr'
    subst ev
    rcases s' with ⟨h2, g2, d2, t2, os'⟩
    exact ⟨rvv, mk_end (raises_own T.exC T.tyC) I up stay un2 hok2 os2 bare2 ea ed hd1 q2⟩
end
/-- RowError.__init__(self, called) -/
def spRE (K : PySem.W.Frag) : Sp := fun vs H Q _ => ∃ (a C : Addr) (z : V), vs = [.ref a, z] ∧ OexC K C ∧ PySem.W.findIn K (.ref C) "called" = some none ∧ H a = some (exo a C none) ∧
  ∀ dx, H dx = none → dx ≠ a → Q .non (upd (upd H dx (exd dx [("called", z)])) a (exo a C (some dx)))
/-- .. of a class under it -/
def spBX (K : PySem.W.Frag) (nm : Str) : Sp := fun vs H Q _ => ∃ (a C : Addr), vs = [.ref a] ∧ OexC K C ∧ PySem.W.findIn K (.ref C) "called" = some none ∧ H a = some (exo a C none) ∧
  ∀ dx, H dx = none → dx ≠ a → Q .non (upd (upd H dx (exd dx [("called", .str nm)])) a (exo a C (some dx)))
section
variable {X : Cx} {f : Fm} {W : WX} {x : Str} {p pos : Pos} {env : Ev} {μ : Mu} {σ : L2.St} {F H : Hp}
theorem del_back {H : Hp} {a d : Addr} {u u' : HO} {v : HO} (ha : H a = none) (hd : d ≠ a) : upd (del (upd (upd (upd H a u) d v) a u') a) d (.xd fs) = upd H d (.xd fs) := by
  funext b
  by_cases h1 : b = d
  · subst h1
    rw [upd_same, upd_same]
  · rw [upd_ne h1, upd_ne h1]
    by_cases h2 : b = a
    · subst h2
      rw [del_same, ha]
    · rw [del_ne h2, upd_ne h2, upd_ne h1, upd_ne h2]
/-- raise C() -/
def wRaise (x : Exc) : WS := fun n _ μ => n.ex x μ
theorem px_raise0 {rpos : Pos} {C fI : Addr} {k : Nat} {fd : FuncData} {nm : Str} (hK : X.K = f.c.K) (hmg : X.mg = f.c.mg) (hc : X.calm = true) (tk : Takes X W) (T : OexC X.K C) (iC : PySem.W.findIn X.K (.ref C) "__init__" = some (some (.ref fI))) (tI : PySem.W.typeIn X.K (.ref fI) = some (.type "function"))
    (nC : PySem.W.findIn X.K (.ref C) "called" = some none) (G : FnOk X.prog X.w X.K X.mg X.base (L2.CX X.prog X.w) k fI fd ["self"] (spBX X.K nm)) (hr : Room (k + 1) X.A) (hb : Binds X.K fd ["self"] []) (hg : Gl X x) (hm : X.mg x = some (.ref C)) (hdb : (x == ("__debug__" : Str)) = false := by decide) :
    PXS X f W (.Raise (some (.Call (.Name x p) [] [] pos)) none rpos) (wRaise ⟨x, [("called", .str nm)]⟩) :=
  ps_imp (ps_raise hc tk (pmk_zero T iC tI G hr hb passL hg hm hdb)) fun Dn σ H h => by
    obtain ⟨env, μ, F, n, rel, hw, ok⟩ := h
    refine ⟨by simp, fun a ha => ?_⟩
    refine ⟨a, C, rfl, T, nC, upd_same, fun dx hdx hne => ?_⟩
    have hdx' : H dx = none := by
      rw [upd_ne hne] at hdx
      exact hdx
    refine ⟨rfl, dx, [("called", .str nm)], upd_same, ?_, hdx', ?_⟩
    · rw [upd_ne hne, upd_same]
    · rw [del_back ha hne]
      have nt : ∀ ps, HO.xd [("called", V.str nm)] ≠ .tbl ps := fun ps z => by cases z
      have r1 := rel.laid (o := .xd [("called", .str nm)]) hdx' nt
      have nf := rel.bnone hdx'
      have r2 := r1.still (o := .xd [("called", .str nm)]) upd_same nf (rel.bt dx hdx') (rel.mnone hdx') nt (rel.notOwn hdx')
      exact ok.ex ⟨x, [("called", .str nm)]⟩ env μ σ (.ref C) (some dx) _ _ r2 (same_upd nf) ⟨C, dx, _, by rw [← hmg]; exact hm, rfl, rfl, upd_same, rfl, .cons (.str _) .nil⟩ hw
end
end PD
set_option Elab.async false
set_option linter.all false
set_option maxRecDepth 100000
set_option maxHeartbeats 4000000
/-! PD11: several clauses that give the refusal a name; the plain try. -/
namespace L2
open PySem PySem.Spec PyProof.Rows
/-- what the clauses 'except x as n' wish, one behind the other; slot i is n's -/
def wManyAs (K : PySem.W.Frag) (i : Nat) (Wout : WX) (D : Ends) : List (Value × (Addr → Value → Option Addr → TS)) → WX
  | [] => Wout
  | q :: r => fun cls d σ H => ∃ b, PySem.W.exmOne K cls q.1 = some b ∧
      (b = true → ∀ a, H a = none → q.2 a cls d { nx := fun σ' H' => D.nx (σ'.set i none) H', rt := D.rt, bk := fun σ' H' => D.bk (σ'.set i none) H', ct := fun σ' H' => D.ct (σ'.set i none) H' } (σ.set i (some (.ref a))) H) ∧
      (b = false → wManyAs K i Wout D r cls d σ H)
inductive HdsAs (X : Cx) (n : Str) : List ExceptHandler → List (Value × (Addr → Value → Option Addr → TS)) → Prop
  | nil : HdsAs X n [] []
  | cons {x : Str} {c : Value} {ts : Addr → Value → Option Addr → TS} {s1 : Stmt} {ss : List Stmt} {np hp : Pos} {hs : List ExceptHandler} {l : List (Value × (Addr → Value → Option Addr → TS))} (nc : Names X x c)
      (su : ∀ (a : Addr) (oe : Obj) (cls : Value) (d : Option Addr) (pn : List (Addr × Obj)), Zc cls d oe → (∃ vs, oe.data = .fields vs) → PSs (X.suite a ((a, oe) :: pn)) (s1 :: ss) (ts a cls d)) (r : HdsAs X n hs l) :
      HdsAs X n (.ExceptHandler (some (.Name x np)) (some n) (s1 :: ss) hp :: hs) ((c, ts) :: l)
section
variable {X : Cx} {n : Str} {i : Nat} {body : List Stmt} {h1 : ExceptHandler} {hs : List ExceptHandler} {l : List (Value × (Addr → Value → Option Addr → TS))} {pos : Pos} {tb : WX → TS} {Wout : WX}
theorem ps_try_manyAs (sk : X.stack = X.env :: X.outer) (fr : X.env.frame = some X.env.locals) (hN : X.N.Nodup) (hi : X.N[i]? = some n) (hln : X.env.kindOf n = some .local) (tk : Takes X Wout)
    (hb : ∀ (W : WX) (pn : List (Addr × Obj)) (xe : Value → Shared → Prop), Takes (X.tr pn xe) W → PassesOwn (model X.prog X.w) X.A X.env xe → PSs (X.tr pn xe) body (tb W))
    (hh : HdsAs X n (h1 :: hs) l) : PS X (.Try body (h1 :: hs) [] [] pos) (fun D σ H => tb (wManyAs X.K i Wout D l) D σ H) := by
  refine ⟨fun pins s σ H D I want => ?_⟩
  have ok := I.ok
  have frames : X.A.frames = some (X.env :: X.outer) := by rw [ok.frames, sk]
  have mine : Loc X.env.scope n := .inl hln
  let land : Value → Shared → Prop := fun e t => wpAny (model X.prog X.w) X.A (noteFrame e X.env) (fun _ t2 => wpAny (model X.prog X.w) X.A (setFlight e none) (fun _ t3 => wpAny (model X.prog X.w) X.A (handleBy e X.env (h1 :: hs)) (SP X pins D) X.xe t3) X.xe t2) X.xe t
  refine wpAny_Try_except (wpAny_mono ((hb (wManyAs X.K i Wout D l) (X.pn ++ pins) land (fun u t air => ?_) PassesOwn.looking).run [] s σ H D (I.toTry _) want) (fun fl t hsp => ?_) (fun e t z => z))
  · obtain ⟨a, B, sI, pins', σ', H', cls, d, rfl, Ja, nb, up, sky, na, os, ag, wish⟩ := air
    have J : Inv X pins σ' H' sI := Ja.ofTry ok
    rw [sk] at sky
    show wpAny (model X.prog X.w) X.A (noteFrame (.ref a) X.env) _ _ _
    refine Sky.land Zc.steady frames fr sky fun g fl up2 => ?_
    have Jg : Inv X pins σ' H' { t with heap := g } := J.landed nb fl.1 (up.trans up2) os ag
    obtain ⟨oe, vs, he, hz, hd⟩ := fl.there
    have off : a ∉ frs (X.env :: X.outer) := fun hm => by
      obtain ⟨_, o', e', hnf⟩ := fl.2.2.1.mem hm
      rw [he] at e'
      cases e'
      exact hnf _ hd
    have offL : a ≠ X.env.locals := fun z => off (List.mem_filterMap.mpr ⟨X.env, List.mem_cons_self, by rw [fr, z]⟩)
    have offF : a ∉ X.fs := fun hm => by
      obtain ⟨e2, he2, q⟩ := List.mem_filterMap.mp hm
      exact off (List.mem_filterMap.mpr ⟨e2, List.mem_cons_of_mem _ he2, q⟩)
    have Sg := Jg.suite he hd na offL offF
    have go : ∀ (hs2 : List ExceptHandler) (l2 : List (Value × (Addr → Value → Option Addr → TS))), HdsAs X n hs2 l2 → wManyAs X.K i Wout D l2 cls d σ' H' → wpAny (model X.prog X.w) X.A (handleBy (.ref a) X.env hs2) (SP X pins D) X.xe { t with heap := g } := by
      intro hs2 l2 hk
      induction hk with
      | nil =>
        intro w
        refine wpAny_handleBy_nil ?_
        obtain ⟨_, _, _, oe', vs', T, oT, ts', he', hz', hd', h1', hr'⟩ := id fl
        unfold PySem.passOn
        refine wpAny_bind (wpAny_field he' hd' h1' ?_)
        rw [if_neg (show ¬ ((Value.ref T == Value.none) = true) from by simp)]
        have out : wpAny (model X.prog X.w) X.A (setFlight (.ref a) X.env.frame) (fun _ t4 => wpAny (model X.prog X.w) X.A (throw (.ref a) : Sem Flow) (SP X pins D) X.xe t4) X.xe { t with heap := g } := by
          rw [fr]
          refine HandSPX.setFlight_upZ fl fun g2 hh2 up3 => wpAny_throw (tk _ _ ?_)
          exact ⟨a, B, sI, pins, σ', H', cls, d, rfl, J, nb, (up.trans up2).trans up3, .inr (.inr (by rw [sk]; exact hh2)), na, os, ag, w⟩
        first
          | exact wpAny_bind (wpAny_pure (wpAny_bind out))
          | exact wpAny_bind out
      | @cons x c ts s1 ss np hp hs3 l3 nc su r ih =>
        intro w
        obtain ⟨b, eb, yes, no⟩ := w
        refine wpAny_handleBy_cons (codeAny_handlers_test ?_) (by intro q; cases q)
        have LT : PySem.W.Looks (model X.prog X.w) g (typeOf (.ref a)) cls := fun A Q E s k q => wpAny_typeOf_ref (k _ _ he) (by rw [hz.1]; exact q)
        have LM := PySem.W.exm_one (M := model X.prog X.w) (Jg.kIn) LT eb
        have read : ∀ {Q : Value → Shared → Prop} {E : Value → Shared → Prop}, Q c { t with heap := g } → wpAny (model X.prog X.w) (X.A.mark (some (.ref a))) (eval (.Name x np) X.env) Q E { t with heap := g } := fun {Q E} q => by
          obtain ⟨hg, hdbg, hm | ⟨hm, hv, hnn⟩⟩ := nc
          · exact ld_glob (X := X.suite a ((a, oe) :: (X.pn ++ pins))) Sg hg hm q hdbg
          · exact ld_blt (X := X.suite a ((a, oe) :: (X.pn ++ pins))) Sg hg hm hv q hnn hdbg
        refine read (LM.here ?_)
        cases b with
        | false => exact ih (no rfl)
        | true =>
          refine codeAny_handlers_suite_as ?_
          refine HandSPX.lands_againZ fl fun g4 fl4 up4 => ?_
          have J4 : Inv X pins σ' H' { t with heap := g4 } := J.landed nb fl4.1 ((up.trans up2).trans up4) os ag
          obtain ⟨oe4, vs4, he4, hz4, hd4⟩ := fl4.there
          have S4 := J4.suite he4 hd4 na offL offF
          refine store_ok (X := X.suite a ((a, oe4) :: (X.pn ++ pins))) (v := .ref a) S4 hN hi mine rfl (fun t5 S5 => ?_) (.inr hln)
          refine wpAny_mono ((su a oe4 cls d (X.pn ++ pins) hz4 ⟨_, hd4⟩).run [] t5 _ H' _ S5 (yes rfl a na)) (fun f6 t6 hsp => ?_) (fun _ _ z => False.elim z)
          have leave : ∀ {σ6 : St} {H6 : Hp} {Q : Shared → Prop}, Inv (X.suite a ((a, oe4) :: (X.pn ++ pins))) [] σ6 H6 t6 → (∀ t7, Inv X pins (σ6.set i none) H6 t7 → Q t7) →
              wpAny (model X.prog X.w) X.A (do bindName X.env n .none; unbindBehindTheSuite X.env n hp) (fun _ t7 => Q t7) X.xe t6 := fun {σ6 H6 Q} S6 hq => gone_ok (S6.unsuite ok) hN hi hln hq
          cases f6 with
          | ret u =>
            obtain ⟨v6, σ6, H6, S6, r6, q6⟩ := hsp
            exact leave S6 fun t7 J7 => ⟨_, _, _, J7, r6, q6⟩
          | next =>
            obtain ⟨σ6, H6, S6, q6⟩ := hsp
            exact leave S6 fun t7 J7 => ⟨_, _, J7, q6⟩
          | brk =>
            obtain ⟨σ6, H6, S6, q6⟩ := hsp
            exact leave S6 fun t7 J7 => ⟨_, _, J7, q6⟩
          | cont =>
            obtain ⟨σ6, H6, S6, q6⟩ := hsp
            exact leave S6 fun t7 J7 => ⟨_, _, J7, q6⟩
    exact go _ _ hh wish
  · cases fl with
    | ret u =>
      obtain ⟨v, σ2, H2, J2, r2, q⟩ := hsp
      exact ⟨v, σ2, H2, J2.ofTry ok, r2, q⟩
    | next =>
      obtain ⟨σ2, H2, J2, q⟩ := hsp
      exact wpAny_execs_nil ⟨σ2, H2, J2.ofTry ok, q⟩
    | brk =>
      obtain ⟨σ2, H2, J2, q⟩ := hsp
      exact ⟨σ2, H2, J2.ofTry ok, q⟩
    | cont =>
      obtain ⟨σ2, H2, J2, q⟩ := hsp
      exact ⟨σ2, H2, J2.ofTry ok, q⟩
end
end L2
set_option Elab.async false
set_option linter.all false
set_option maxRecDepth 100000
set_option maxHeartbeats 4000000
/-! PD12: a def that calls what it got and tells what it refused; lists that grow. -/
namespace PD
open PySem PySem.Spec L2
section
variable {X : Cx} {f : Fm} {W : WX} {x : Str} {p pos : Pos} {env : Ev} {μ : Mu} {σ : L2.St} {F H : Hp}
theorem Fit.tables {H1 : Hp} (q : Fit f μ F H) (e : LamX.ExtN H H1) (t : LamX.Tabs f.c.T H1) : Fit f μ F H1 where
  bh := fun b o h => e b o (q.bh b o h) fun ps z => q.bn b ps (by rw [h, z])
  bn := q.bn
  f0 := q.f0
  fh := fun b o h => e b o (q.fh b o h) fun ps z => q.ft b ps (by rw [h, z])
  fb := q.fb
  ft := q.ft
  mu := fun a m h => by
    obtain ⟨h1, h2, h3⟩ := q.mu a m h
    obtain ⟨o, ho, nt⟩ := h3.there
    exact ⟨h1, h2, h3.stay (Same.refl _) fun o' h' => e a o' h' fun ps z => nt ps (by rw [ho] at h'; rw [Option.some.inj h', z])⟩
  tb := t
theorem Rel.tables {H1 : Hp} (q : Rel f env μ σ F H) (e : LamX.ExtN H H1) (t : LamX.Tabs f.c.T H1) : Rel f env μ σ F H1 :=
  { q.toFit.tables e t with
    len := q.len
    dj := q.dj
    sl := fun i sv h => (by
      cases sv with
      | val d => exact q.sl i _ h
      | own k =>
        obtain ⟨a, h1, h2, h3, h4, h5⟩ := q.sl i _ h
        obtain ⟨o, ho, nt⟩ := h5.there
        exact ⟨a, h1, h2, h3, h4, h5.stay (Same.refl _) fun o' h' => e a o' h' fun ps z => nt ps (by rw [ho] at h'; rw [Option.some.inj h', z])⟩) }
/-- the clauses, by their classes: what is told of a refusal -/
def refSel (K : PySem.W.Frag) (Q : VK) (cls : Value) (d : Option Addr) (H : Hp) : List Addr → Prop
  | [] => False
  | C :: r => ∃ b, PySem.W.exmOne K cls (.ref C) = some b ∧
      (b = true → ∃ (C' dd : Addr) (fs : List (Str × V)) (z : V), cls = .ref C' ∧ XfC K C' ∧ PySem.W.findIn K (.ref C') "called" = some none ∧ d = some dd ∧ H dd = some (.xd fs) ∧ fs.lookup ("called" : Str) = some z ∧ ∀ p, H p = none → Q (.ref p) (upd H p (.tup [.str "refused", z]))) ∧
      (b = false → refSel K Q cls d H r)
/-- told: ("told", a()), or ("refused", what it is called) -/
def TTref (K : PySem.W.Frag) (Cs : List Addr) : (XK → Hp → VK → Prop) → Hp → VK → Prop := fun tl H Q =>
  tl (fun cls d H' => refSel K Q cls d H' Cs) H fun v H' => 2 ≤ sizeLine ∧ ∀ p, H' p = none → Q (.ref p) (upd H' p (.tup [.str "told", v]))
/-- the clause's suite -/
theorem suite_ref {a : Addr} {oe : Obj} {cls : Value} {d : Option Addr} {pn : List (Addr × Obj)} {n : Str} {i j : Nat} {p1 p2 p3 p4 p5 : Pos} {k1 : Nat} (hz : Zc cls d oe) (hf : ∃ vs, oe.data = .fields vs) (hN : X.N[i]? = some n) (hv : Vis X.env.scope n)
    (hd : (n == ("__debug__" : Str)) = false) (hcd : (n == ("__classdict__" : Str)) = false) (hat : attributeBase (.Name n p3) "called" X.env (eval (.Name n p3) X.env) = eval (.Name n p3) X.env)
    (h1 : starEach [.Constant (.str "refused") j p2, .Attribute (.Name n p3) "called" p4] X.env = (false, eval (.Constant (.str "refused") j p2) X.env) :: starEach [.Attribute (.Name n p3) "called" p4] X.env)
    (h2 : starEach [.Attribute (.Name n p3) "called" p4] X.env = (false, eval (.Attribute (.Name n p3) "called" p4) X.env) :: starEach [] X.env) :
    PSs (X.suite a ((a, oe) :: pn)) [.Return (some (.Tuple [.Constant (.str "refused") j p2, .Attribute (.Name n p3) "called" p4] k1 p1)) p5] (fun D σ H => ∃ (C' dd : Addr) (fs : List (Str × V)) (z : V), cls = .ref C' ∧ XfC X.K C' ∧ PySem.W.findIn X.K (.ref C') "called" = some none ∧ d = some dd ∧
      σ[i]? = some (some (.ref a)) ∧ H dd = some (.xd fs) ∧ fs.lookup ("called" : Str) = some z ∧ ∀ p, H p = none → D.rt (.ref p) (upd H p (.tup [.str "refused", z]))) := by
  refine ⟨fun pins s σ H D I h => ?_⟩
  obtain ⟨C', dd, fs, z, ec, xf, hno, ed, hs, ea, hl, k⟩ := h
  have hN' : (X.suite a ((a, oe) :: pn)).N[i]? = some n := hN
  have hv' : Vis (X.suite a ((a, oe) :: pn)).env.scope n := hv
  have fld := pe_xf (X := X) (C := C') (n := "called") (pos := p4) xf hno hz hf (pe_var (X := X.suite a ((a, oe) :: pn)) (pos := p3) hN' hv' hd hcd) hat
  refine (pss_one (ps_ret (pe_tup (pa_cons pe_str (pa_cons fld pa_nil h2) h1)))).run pins s σ H D I ?_
  refine ⟨.ref a, hs, rfl, ec, dd, fs, z, ed, ea, hl, ?_⟩
  exact ⟨by show 2 ≤ sizeLine; decide, k⟩
/-- the body of such a def -/
abbrev refBody (a n c1 c2 c3 : Str) (j : Nat) (k : Nat) (q0 q1 q2 q3 q4 q5 q6 q7 q8 q9 q10 q11 q12 q13 q14 q15 q16 q17 q18 q19 q20 q21 q22 q23 q24 q25 q26 : Pos) : List Stmt :=
  [.Try [.Return (some (.Tuple [.Constant (.str "told") j q0, .Call (.Name a q1) [] [] q2] k q3)) q4]
    [.ExceptHandler (some (.Name c1 q5)) (some n) [.Return (some (.Tuple [.Constant (.str "refused") j q6, .Attribute (.Name n q7) "called" q8] k q9)) q10] q11,
     .ExceptHandler (some (.Name c2 q12)) (some n) [.Return (some (.Tuple [.Constant (.str "refused") j q13, .Attribute (.Name n q14) "called" q15] k q16)) q17] q18,
     .ExceptHandler (some (.Name c3 q19)) (some n) [.Return (some (.Tuple [.Constant (.str "refused") j q20, .Attribute (.Name n q21) "called" q22] k q23)) q24] q25] [] [] q26]
theorem ref_gives {xg a n c1 c2 c3 qn : Str} {sg : Scope} {g C1 C2 C3 : Addr} {cdg : Value} {j k : Nat} {q0 q1 q2 q3 q4 q5 q6 q7 q8 q9 q10 q11 q12 q13 q14 q15 q16 q17 q18 q19 q20 q21 q22 q23 q24 q25 q26 : Pos} (hN : [a, n].Nodup) (ha : sg.names.lookup a = some .local) (hn : sg.names.lookup n = some .local) (hda : (a == ("__debug__" : Str)) = false) (hca : (a == ("__classdict__" : Str)) = false) (hdn : (n == ("__debug__" : Str)) = false) (hcn : (n == ("__classdict__" : Str)) = false)
    (g1 : sg.names.lookup c1 = some .globalImplicit) (m1 : X.mg c1 = some (.ref C1)) (d1 : (c1 == ("__debug__" : Str)) = false) (g2 : sg.names.lookup c2 = some .globalImplicit) (m2 : X.mg c2 = some (.ref C2)) (d2 : (c2 == ("__debug__" : Str)) = false)
    (g3 : sg.names.lookup c3 = some .globalImplicit) (m3 : X.mg c3 = some (.ref C3)) (d3 : (c3 == ("__debug__" : Str)) = false) :
    LamX.GivesTo X [a, n] xg sg g cdg (refBody a n c1 c2 c3 j k q0 q1 q2 q3 q4 q5 q6 q7 q8 q9 q10 q11 q12 q13 q14 q15 q16 q17 q18 q19 q20 q21 q22 q23 q24 q25 q26) a qn (TTref X.K [C1, C2, C3]) := by
  intro fa c' s H Q tl act hc h
  let Z : Cx := (cxOf C8.CX0 X.prog X.w X.K X.mg X.base [a, n] xg sg g cdg X.A X.stack s H C8.E0).nox
  have cl : ∀ (c : Str) (C : Addr), sg.names.lookup c = some .globalImplicit → X.mg c = some (.ref C) → (c == ("__debug__" : Str)) = false → Names Z c (.ref C) := fun c C h1 h2 h3 => ⟨h1, h3, .inl h2⟩
  have su : ∀ (q1 q2 q3 q4 q5 : Pos) (e : Addr) (oe : Obj) (cls : Value) (d : Option Addr) (pn : List (Addr × Obj)), Zc cls d oe → (∃ vs, oe.data = .fields vs) → PSs (Z.suite e ((e, oe) :: pn)) [.Return (some (.Tuple [.Constant (.str "refused") j q1, .Attribute (.Name n q2) "called" q3] k q4)) q5] (fun D σ H => ∃ (C' dd : Addr) (fs : List (Str × V)) (z : V), cls = .ref C' ∧ XfC Z.K C' ∧ PySem.W.findIn Z.K (.ref C') "called" = some none ∧ d = some dd ∧
      σ[1]? = some (some (.ref e)) ∧ H dd = some (.xd fs) ∧ fs.lookup ("called" : Str) = some z ∧ ∀ p, H p = none → D.rt (.ref p) (upd H p (.tup [.str "refused", z]))) := fun r1 r2 r3 r4 r5 e oe cls d pn hz hf =>
    suite_ref (X := Z) (i := 1) hz hf rfl (.inl hn) hdn hcn rfl rfl rfl
  refine ⟨_, pss_one (ps_try_manyAs (X := Z) (i := 1) (n := n) (l := [(.ref C1, _), (.ref C2, _), (.ref C3, _)])
      (tb := fun W D σ H => ∃ Ech : XK, (∀ cls d σ' H', σ'.length = 2 → Ech cls d H' → W cls d σ' H') ∧ σ[0]? = some (some (.ref fa)) ∧ H c' = some (LamX.CodeO c' qn) ∧ tl Ech H fun v H' => 2 ≤ sizeLine ∧ ∀ p, H' p = none → D.rt (.ref p) (upd H' p (.tup [.str "told", v])))
      rfl rfl hN rfl hn L2.takes0 (fun W pn xe tk _ => ?_) (.cons (cl c1 C1 g1 m1 d1) (su _ _ _ _ _) (.cons (cl c2 C2 g2 m2 d2) (su _ _ _ _ _) (.cons (cl c3 C3 g3 m3 d3) (su _ _ _ _ _) .nil)))), ?_⟩
  · refine ⟨fun pins s' σ H' D I h' => ?_⟩
    obtain ⟨Ech, hW, h1, h2, h3⟩ := h'
    have tk2 : Takes (Z.tr pn xe) (fun cls d σ H => σ.length = 2 → W cls d σ H) := fun u t ⟨e, B, sI, ps, σ2, H2, cls, d, eu, J, nb, up, sky, na, os, ag, w⟩ => tk u t ⟨e, B, sI, ps, σ2, H2, cls, d, eu, J, nb, up, sky, na, os, ag, w J.len⟩
    have call := act _ pn xe Ech q1 q2 tk2 (fun cls d σ' H' he hl => hW cls d σ' H' hl he)
    exact (pss_one (ps_ret (pos := q4) (pe_tup (pos := q3) (x1 := k) (pa_cons (pe_str (pos := q0) (j := j)) (pa_cons call pa_nil))))).run pins s' σ H' D I ⟨h1, h2, h3⟩
  · refine ⟨fun cls d H' => refSel X.K Q cls d H' [C1, C2, C3], fun cls d σ' H' hl he => ?_, rfl, hc, h⟩
    have hs : ∀ e : Addr, (σ'.set 1 (some (V.ref e)))[1]? = some (some (.ref e)) := fun e => List.getElem?_set_self (by omega)
    obtain ⟨b1, e1, y1, n1⟩ := he
    refine ⟨b1, e1, fun hb e he' => ?_, fun hb => ?_⟩
    · obtain ⟨C', dd, fs, z, a1, a2, a3, a4, a5, a6, a7⟩ := y1 hb
      exact ⟨C', dd, fs, z, a1, a2, a3, a4, hs e, a5, a6, a7⟩
    obtain ⟨b2, e2, y2, n2⟩ := n1 hb
    refine ⟨b2, e2, fun hb e he' => ?_, fun hb => ?_⟩
    · obtain ⟨C', dd, fs, z, a1, a2, a3, a4, a5, a6, a7⟩ := y2 hb
      exact ⟨C', dd, fs, z, a1, a2, a3, a4, hs e, a5, a6, a7⟩
    obtain ⟨b3, e3, y3, n3⟩ := n2 hb
    refine ⟨b3, e3, fun hb e he' => ?_, fun hb => ?_⟩
    · obtain ⟨C', dd, fs, z, a1, a2, a3, a4, a5, a6, a7⟩ := y3 hb
      exact ⟨C', dd, fs, z, a1, a2, a3, a4, hs e, a5, a6, a7⟩
    exact (n3 hb).elim
/-- the classes whose refusals are told, plainly -/
structure Told (c : Cfg) (Cs : List Addr) (cn : Str) : Prop where
  to : ∃ C, c.mg cn = some (.ref C) ∧ XfC c.K C ∧ PySem.W.findIn c.K (.ref C) "called" = some none ∧ ∃ pre post D, Cs = pre ++ D :: post ∧ (∀ E ∈ pre, PySem.W.exmOne c.K (.ref C) (.ref E) = some false) ∧ PySem.W.exmOne c.K (.ref C) (.ref D) = some true
theorem sel_ok {c : Cfg} {C : Addr} {Q : VK} {d : Option Addr} {H : Hp} (hx : XfC c.K C) (hno : PySem.W.findIn c.K (.ref C) "called" = some none) {pre post : List Addr} {D : Addr} (hp : ∀ E ∈ pre, PySem.W.exmOne c.K (.ref C) (.ref E) = some false) (hD : PySem.W.exmOne c.K (.ref C) (.ref D) = some true)
    {dd : Addr} {fs : List (Str × V)} {z : V} (hd : d = some dd) (hf : H dd = some (.xd fs)) (hl : fs.lookup ("called" : Str) = some z) (k : ∀ p, H p = none → Q (.ref p) (upd H p (.tup [.str "refused", z]))) : refSel c.K Q (.ref C) d H (pre ++ D :: post) := by
  induction pre with
  | nil => exact ⟨true, hD, fun _ => ⟨C, dd, fs, z, rfl, hx, hno, hd, hf, hl, k⟩, (fun q => by cases q)⟩
  | cons E pre ih => exact ⟨false, hp E (List.mem_cons_self ..), (fun q => by cases q), fun _ => ih fun E' hE => hp E' (List.mem_cons_of_mem _ hE)⟩
theorem lookup_reps {c : Cfg} {F : Hp} {nm : Str} : ∀ {fs : List (Str × V)} {gs : List (Str × D)} {z : D}, fs.map (·.1) = gs.map (·.1) → Reps c F (fs.map (·.2)) (gs.map (·.2)) → gs.lookup nm = some z → ∃ v, fs.lookup nm = some v ∧ Rep c F v z
  | [], [], _, _, _, h => by cases h
  | [], _ :: _, _, h, _, _ => by cases h
  | _ :: _, [], _, h, _, _ => by cases h
  | (n1, v) :: fs, (n2, d) :: gs, z, e, r, h => by
    simp only [List.map_cons, List.cons.injEq] at e
    obtain ⟨e1, e2⟩ := e
    subst e1
    cases r with
    | cons r1 r2 =>
      unfold List.lookup at h ⊢
      cases q : (nm == n1) with
      | true =>
        simp only [q] at h ⊢
        cases h
        exact ⟨v, rfl, r1⟩
      | false =>
        simp only [q] at h ⊢
        exact lookup_reps e2 r2 h
def wRef (names : List Str) (tb : WE) : WE := fun env μ Q E => tb env μ (fun r μ1 => r.still fun d => Q (.fz (.tup [.str "told", d])) μ1) fun x μ1 => x.cn ∈ names ∧ ∃ z, x.fs.lookup ("called" : Str) = some z ∧ Q (.fz (.tup [.str "refused", z])) μ1
theorem ref_ok {names : List Str} {Cs : List Addr} {tb : WE} (hT : ∀ cn ∈ names, Told f.c Cs cn) (σ : L2.St) (H : Hp) (Q : VK) (h : Lf f W (wRef names tb) σ H Q) :
    LamX.tLam f.c.T (TTref f.c.K Cs) (fun E => Lf f (fun cls d _ H => E cls d H) tb) σ H Q := by
  obtain ⟨env, μ, F, Qp, Ep, rel, hw, k, kx⟩ := h
  refine ⟨rel.tb, fun H1 eN T1 => ?_⟩
  have rel1 := rel.tables eN T1
  refine ⟨env, μ, F, _, _, rel1, hw, fun r1 μ1 v1 F1 H2 rel2 e1 rr1 q1 => ?_, fun x μ1 cls d F1 H2 rel2 e1 xr q1 => ?_⟩
  · obtain ⟨F2, rel3, e2, rz1⟩ := settle rel2 rr1
    obtain ⟨s1, q2⟩ := still_ok rz1 q1
    exact ⟨by decide, yield_tup rel3 (.cons (.str _) (.one s1)) fun v F' H' r' s' rr => k _ μ1 v F' H' r' ((e1.trans e2).trans s') rr q2⟩
  · obtain ⟨hn, z, hz, q2⟩ := q1
    obtain ⟨C, dd, fs, m1, m2, m3, m4, m5, m6⟩ := xr
    obtain ⟨C', t1, t2, t3, pre, post, D, t4, t5, t6⟩ := (hT x.cn hn).to
    rw [m1] at t1
    cases t1
    subst m2
    obtain ⟨v, l1, l2⟩ := lookup_reps m5 m6 hz
    rw [t4]
    exact sel_ok t2 t3 t5 t6 m3 (rel2.fh _ _ m4) l1 (yield_tup rel2 (.cons (.str _) (.one l2)) fun v F' H' r' s' rr => k _ μ1 v F' H' r' (e1.trans s') rr q2)
/-- x(lambda: body), x telling refusals -/
theorem px_refused {names : List Str} {a n c1 c2 c3 : Str} {g c P C1 C2 C3 : Addr} {k j kk : Nat} {q0 q1 q2 q3 q4 q5 q6 q7 q8 q9 q10 q11 q12 q13 q14 q15 q16 q17 q18 q19 q20 q21 q22 q23 q24 q25 q26 : Pos} {pg : Arguments} {sg : Scope} {dV kV doc pm cdv ct oc : Value} {an od : Option Addr} {osl : Array (Option Value)} {params : Arguments} {body : Expr} {scope : Scope} {tb : WE} {lpos : Pos}
    (hK : X.K = f.c.K) (hT : ∀ cn ∈ names, Told f.c [C1, C2, C3] cn) (hg : Gl X x) (hm : X.mg x = some (.ref g)) (hk : PySem.W.keepIn X.K (.ref g) = true)
    (lk : X.K.lookup g = some ⟨oc, od, .func (PySem.W.fnOf x x pg (refBody a n c1 c2 c3 j kk q0 q1 q2 q3 q4 q5 q6 q7 q8 q9 q10 q11 q12 q13 q14 q15 q16 q17 q18 q19 q20 q21 q22 q23 q24 q25 q26) sg dV kV doc pm an cdv ct), osl⟩) (hcg : PySem.W.codeIn X.K cdv x = true) (hb : L2.Binds X.K (PySem.W.fnOf x x pg (refBody a n c1 c2 c3 j kk q0 q1 q2 q3 q4 q5 q6 q7 q8 q9 q10 q11 q12 q13 q14 q15 q16 q17 q18 q19 q20 q21 q22 q23 q24 q25 q26) sg dV kV doc pm an cdv ct) [a] []) (Sg : FnScope [a, n] [a] sg)
    (hN : [a, n].Nodup) (ha : sg.names.lookup a = some .local) (hn : sg.names.lookup n = some .local) (g1 : sg.names.lookup c1 = some .globalImplicit) (m1 : X.mg c1 = some (.ref C1)) (g2 : sg.names.lookup c2 = some .globalImplicit) (m2 : X.mg c2 = some (.ref C2)) (g3 : sg.names.lookup c3 = some .globalImplicit) (m3 : X.mg c3 = some (.ref C3))
    (TB : LamX.TabB X.base X.mg c P) (hcode : X.env.code = .ref c) (hmT : (P, X.env.qual ++ "<lambda>") ∈ f.c.T) (hu : ∀ p ∈ f.c.T, p.1 = P → p.2 = X.env.qual ++ "<lambda>") (hr : Room (k + 2) X.A) (L : LamX.LamS X.env.scope scope) (hdef : defaultsOf params X.env = ([], []))
    (hbind : ∀ (q : Str) (cl : List (Str × Addr)) (pm cv ctv : Value), bindArgs (PySem.W.kla_fn "<lambda>" q params body scope cl pm cv ctv) ⟨[], []⟩ = pure [])
    (hbody : ∀ (A : Around) (outer : List Env) (s : Shared) (H : Hp) (E : XK) (fa c' : Addr), Room k (A.deeper (LamX.lamEnv X scope s.heap.objs.size fa c')) → PX (LamX.lamCx X A outer s H E scope fa c') f (fun cls d _ H => E cls d H) body tb)
    (hda : (a == ("__debug__" : Str)) = false := by decide) (hca : (a == ("__classdict__" : Str)) = false := by decide) (hdn : (n == ("__debug__" : Str)) = false := by decide) (hcn : (n == ("__classdict__" : Str)) = false := by decide) (d1 : (c1 == ("__debug__" : Str)) = false := by decide)
    (d2 : (c2 == ("__debug__" : Str)) = false := by decide) (d3 : (c3 == ("__debug__" : Str)) = false := by decide) (hdb : (x == ("__debug__" : Str)) = false := by decide) :
    PX X f W (.Call (.Name x p) [.Lambda params body scope lpos] [] pos) (wRef names tb) :=
  pe_imp (LamX.pe_lamcall (T := f.c.T) (TT := TTref X.K [C1, C2, C3]) (t := fun E => Lf f (fun cls d _ H => E cls d H) tb) hg hm hk lk hcg hb Sg rfl (.inl ha) (ref_gives hN ha hn hda hca hdn hcn g1 m1 d1 g2 m2 d2 g3 m3 d3) TB hcode hmT hu hr L hdef hbind hbody hdb hda hca)
    fun σ H Q h => by
      rw [hK]
      exact ref_ok hT σ H Q h
end
/-! ### lists that one slot alone holds -/
section
variable {X : Cx} {f : Fm} {W : WX} {e : Expr} {x : Str} {p pos : Pos} {env : Ev} {μ : Mu} {σ : L2.St} {F H : Hp} {wa wb wi : WE} {i : Nat}
theorem Rel.writeOwn {a : Addr} {o' : HO} {k k' : Cont} (q : Rel f env μ σ F H) (h : env[i]? = some (some (.own k))) (hs : σ[i]? = some (some (.ref a))) (hc : ContAt f.c F (upd H a o') a k') (nt' : ∀ ps, o' ≠ .tbl ps) : Rel f (env.set i (some (.own k'))) μ σ F (upd H a o') := by
  obtain ⟨a', h1, nf, nb, nm, hk⟩ := q.sl i _ h
  rw [hs] at h1
  cases h1
  have soft : ∀ {o : HO}, H a = some o → (∀ ps, o ≠ .tbl ps) ∧ ∀ φ, o ≠ .ext φ := fun {o} ho => by
    cases k with
    | lst l =>
      obtain ⟨xs, g1, _⟩ := hk
      rw [ho] at g1
      cases g1
      exact ⟨(fun ps z => by cases z), (fun ps z => by cases z)⟩
    | dic ks vs =>
      obtain ⟨xs, g1, _⟩ := hk
      rw [ho] at g1
      cases g1
      exact ⟨(fun ps z => by cases z), (fun ps z => by cases z)⟩
    | dct ks vs =>
      obtain ⟨xs, g1, _⟩ := hk
      rw [ho] at g1
      cases g1
      exact ⟨(fun ps z => by cases z), (fun ps z => by cases z)⟩
  obtain ⟨o, ho, _⟩ := hk.there
  have hi : i < env.length := (List.getElem?_eq_some_iff.mp h).1
  exact { q.toFit.write ho (soft ho) nf nb nm with
    len := by rw [List.length_set]; exact q.len
    dj := fun j j' k1 k2 b h1 h2 h3 h4 => by
      have g : ∀ {m : Nat} {kk : Cont}, (env.set i (some (.own k')))[m]? = some (some (.own kk)) → ∃ kk', env[m]? = some (some (.own kk')) := fun {m kk} hm => by
        rcases set_get hm with ⟨rfl, _⟩ | ⟨_, hm⟩
        · exact ⟨k, h⟩
        · exact ⟨kk, hm⟩
      obtain ⟨_, g1⟩ := g h1
      obtain ⟨_, g2⟩ := g h2
      exact q.dj j j' _ _ b g1 g2 h3 h4
    sl := fun j sv hj => by
      by_cases ej : j = i
      · subst ej
        rw [List.getElem?_set_self hi] at hj
        cases hj
        exact ⟨a, hs, nf, nb, nm, hc⟩
      · rw [set_at ej] at hj
        cases sv with
        | val d => exact q.sl j _ hj
        | own kk => exact (q.sl j _ hj).stay (Same.refl _) fun b u h1 h2 _ _ hq => ⟨by
            rw [upd_ne (fun e => ej (q.dj j i kk k b hj h h1 (by rw [e]; exact hs)))]
            exact hq, h2⟩ }
/-- what slot i alone holds, a list -/
def ownL (i : Nat) (env : Ev) (k : List D → Prop) : Prop := match env[i]? with
  | some (some (.own (.lst l))) => k l
  | _ => False
theorem ownL_at {k : List D → Prop} (h : ownL i env k) : ∃ l, env[i]? = some (some (.own (.lst l))) ∧ k l := by
  unfold ownL at h
  split at h
  · rename_i l hl
    exact ⟨l, hl, h⟩
  · exact h.elim
theorem own_get {l : List D} (q : Rel f env μ σ F H) (h : env[i]? = some (some (.own (.lst l)))) : ∃ a xs, σ[i]? = some (some (.ref a)) ∧ H a = some (.lst xs) ∧ Reps f.c F xs l := by
  obtain ⟨a, h1, _, _, _, xs, h2, h3⟩ := q.sl i _ h
  exact ⟨a, xs, h1, h2, h3⟩
/-- x.append(e) -/
def wApp (i : Nat) (wa : WE) : WS := fun n env μ => ownL i env fun l => wa env μ (fun r μ1 => r.still fun d => l.length < sizeLine ∧ n.nx (env.set i (some (.own (.lst (l ++ [d]))))) μ1) n.ex
theorem px_append {apos cpos : Pos} {pv : Pos} (hN : X.N[i]? = some x) (hv : Vis X.env.scope x) (he : PX X f W e wa) (hd : (x == ("__debug__" : Str)) = false := by decide) (hcd : (x == ("__classdict__" : Str)) = false := by decide)
    (hbase : attributeBase (.Name x pv) "append" X.env (eval (.Name x pv) X.env) = eval (.Name x pv) X.env := by rfl) (hline : (apos.endLine == cpos.line) = true := by rfl) (hs : swapsWith (.Call (.Attribute (.Name x pv) "append" apos) [e] [] cpos) none pos.line X.env = pure false := by rfl)
    (hfew : ((backTo cpos (starEach [e] X.env)).all (fun x => !x.1) && (backToKw cpos (keywordEach [] X.env)).all (fun x => x.1.isSome)
      && decide ([e].length + ([] : List Keyword).length + (if ([] : List Keyword).isEmpty then 0 else 1) < 30)) = true := by rfl)
    (hst : starEach [e] X.env = (false, eval e X.env) :: starEach [] X.env := by rfl) (hpl : (backTo cpos (starEach [] X.env)).any (·.1) = false := by rfl) :
    PXS X f W (.Expr (.Call (.Attribute (.Name x pv) "append" apos) [e] [] cpos) pos) (wApp i wa) :=
  ps_imp (ps_expr (pe_bm PySem.F.plainAttrs_list PySem.F.slot_list_append PySem.F.type_list_append mt_append (pe_var (i := i) hN hv hd hcd) (pa_cons he pa_nil hst) hbase hfew hline hst hpl) hs) fun Dn σ H h => by
    obtain ⟨env, μ, F, n, rel, hw, ok⟩ := h
    obtain ⟨l, hl, hw⟩ := ownL_at hw
    obtain ⟨a, xs, g1, g2, g3⟩ := own_get rel hl
    refine ⟨.ref a, g1, .inl ⟨rfl, xs, SqL.of g2⟩, env, μ, F, _, _, rel, hw, fun r1 μ1 v1 F1 H1 rel1 e1 rr1 q1 => ?_, fun x μ2 cls d F2 H2 rel2 e2 xr q2 => ok.ex x env μ2 σ cls d F2 H2 rel2 e2 xr q2⟩
    obtain ⟨F2, rel2, e2, rz1⟩ := settle rel1 rr1
    obtain ⟨s1, q2⟩ := still_ok rz1 q1
    obtain ⟨a', xs', k1, k2, k3⟩ := own_get rel2 hl
    rw [g1] at k1
    cases k1
    refine ⟨a, xs', v1, rfl, rfl, k2, by rw [k3.len]; exact q2.1, ?_⟩
    exact ok.nx _ μ1 σ F2 _ (rel2.writeOwn (k' := .lst (l ++ [r1.d])) hl g1 ⟨_, upd_same, k3.app (.one s1)⟩ (fun ps z => by cases z)) (e1.trans e2) q2.2
/-- x.extend(e) -/
def wExt (i : Nat) (wa : WE) : WS := fun n env μ => ownL i env fun l => wa env μ (fun r μ1 => match r.d with
  | .lst m => l.length + m.length ≤ sizeLine ∧ n.nx (env.set i (some (.own (.lst (l ++ m))))) μ1
  | _ => False) n.ex
theorem px_extend {apos cpos : Pos} {pv : Pos} (hN : X.N[i]? = some x) (hv : Vis X.env.scope x) (he : PX X f W e wa) (hd : (x == ("__debug__" : Str)) = false := by decide) (hcd : (x == ("__classdict__" : Str)) = false := by decide)
    (hbase : attributeBase (.Name x pv) "extend" X.env (eval (.Name x pv) X.env) = eval (.Name x pv) X.env := by rfl) (hline : (apos.endLine == cpos.line) = true := by rfl) (hs : swapsWith (.Call (.Attribute (.Name x pv) "extend" apos) [e] [] cpos) none pos.line X.env = pure false := by rfl)
    (hfew : ((backTo cpos (starEach [e] X.env)).all (fun x => !x.1) && (backToKw cpos (keywordEach [] X.env)).all (fun x => x.1.isSome)
      && decide ([e].length + ([] : List Keyword).length + (if ([] : List Keyword).isEmpty then 0 else 1) < 30)) = true := by rfl)
    (hst : starEach [e] X.env = (false, eval e X.env) :: starEach [] X.env := by rfl) (hpl : (backTo cpos (starEach [] X.env)).any (·.1) = false := by rfl) :
    PXS X f W (.Expr (.Call (.Attribute (.Name x pv) "extend" apos) [e] [] cpos) pos) (wExt i wa) :=
  ps_imp (ps_expr (pe_bm PySem.F.plainAttrs_list PySem.F.slot_list_extend PySem.F.type_list_extend mt_extend (pe_var (i := i) hN hv hd hcd) (pa_cons he pa_nil hst) hbase hfew hline hst hpl) hs) fun Dn σ H h => by
    obtain ⟨env, μ, F, n, rel, hw, ok⟩ := h
    obtain ⟨l, hl, hw⟩ := ownL_at hw
    obtain ⟨a, xs, g1, g2, g3⟩ := own_get rel hl
    refine ⟨.ref a, g1, .inl ⟨rfl, xs, SqL.of g2⟩, env, μ, F, _, _, rel, hw, fun r1 μ1 v1 F1 H1 rel1 e1 rr1 q1 => ?_, fun x μ2 cls d F2 H2 rel2 e2 xr q2 => ok.ex x env μ2 σ cls d F2 H2 rel2 e2 xr q2⟩
    obtain ⟨F2, rel2, e2, rz1⟩ := settle rel1 rr1
    cases e3 : r1.d <;> rw [e3] at q1 <;> first | exact q1.elim | skip
    rename_i m
    obtain ⟨b, zs, rfl, m1, m2⟩ := rz1.lst rel2 e3
    obtain ⟨a', xs', k1, k2, k3⟩ := own_get rel2 hl
    rw [g1] at k1
    cases k1
    refine ⟨a, b, xs', zs, rfl, rfl, k2, m1, by rw [k3.len, m2.len]; exact q1.1, ?_⟩
    exact ok.nx _ μ1 σ F2 _ (rel2.writeOwn (k' := .lst (l ++ m)) hl g1 ⟨_, upd_same, k3.app m2⟩ (fun ps z => by cases z)) (e1.trans e2) q1.2
/-- x[k] = e -/
def wSetI (i : Nat) (wi wv : WE) : WS := fun n env μ => wv env μ (fun r μ1 => r.still fun d => ownL i env fun l => wi env μ1 (fun r2 μ2 => match r2.d with
  | .int k => match ixN l.length k with
    | some j => n.nx (env.set i (some (.own (.lst (l.set j d))))) μ2
    | none => False
  | _ => False) n.ex) n.ex
theorem px_setI {ei : Expr} {pv tpos : Pos} (hN : X.N[i]? = some x) (hv : Vis X.env.scope x) (he : PX X f W e wa) (hi : PX X f W ei wi) (hd : (x == ("__debug__" : Str)) = false := by decide) (hcd : (x == ("__classdict__" : Str)) = false := by decide)
    (hs : swapsWithSole [.Subscript (.Name x pv) ei tpos] e pos.line X.env = pure false := by rfl) (hw : swappedStores [.Subscript (.Name x pv) ei tpos] e X.env = pure none := by rfl) (h1 : (assignEach [.Subscript (.Name x pv) ei tpos] X.env).map (·.2) = [assign (.Subscript (.Name x pv) ei tpos) X.env] := by rfl)
    (ha : ∀ v, assign (.Subscript (.Name x pv) ei tpos) X.env v = (do
      let whole ← holding [v] (eval (.Name x pv) X.env)
      let place ← holding [v, whole] (eval ei X.env)
      standAt tpos
      holding [v, whole, place] (setItem whole place v)
      release [v, whole, place] []) := by intro _; rfl) :
    PXS X f W (.Assign [.Subscript (.Name x pv) ei tpos] e pos) (wSetI i wi wa) :=
  ps_imp (ps_asg he (pg_sub (pe_var (i := i) hN hv hd hcd) hi set_list ha) hs hw h1) fun Dn σ H h => by
    obtain ⟨env, μ, F, n, rel, hw, ok⟩ := h
    refine ⟨env, μ, F, _, _, rel, hw, fun r1 μ1 v1 F1 H1 rel1 e1 rr1 q1 => ?_, fun x μ2 cls d F2 H2 rel2 e2 xr q2 => ok.ex x env μ2 σ cls d F2 H2 rel2 e2 xr q2⟩
    obtain ⟨F2, rel2, e2, rz1⟩ := settle rel1 rr1
    obtain ⟨s1, q2⟩ := still_ok rz1 q1
    obtain ⟨l, hl, q3⟩ := ownL_at q2
    obtain ⟨a, xs, g1, g2, g3⟩ := own_get rel2 hl
    have eA := e1.trans e2
    refine ⟨.ref a, g1, env, μ1, F2, _, _, rel2, q3, fun r2 μ2 v2 F3 H3 rel3 e3 rr2 q4 => ?_, fun x μ2 cls d F2 H2 rel2 e2 xr q2 => ok.ex x env μ2 σ cls d F2 H2 rel2 (eA.trans e2) xr q2⟩
    obtain ⟨F4, rel4, e4, rz2⟩ := settle rel3 rr2
    cases ek : r2.d <;> simp only [ek] at q4 <;> first | exact q4.elim | skip
    rename_i k
    cases ej : ixN l.length k with
    | none =>
      simp only [ej] at q4
    | some j =>
      simp only [ej] at q4
      obtain ⟨a', xs', k1, k2, k3⟩ := own_get rel4 hl
      rw [g1] at k1
      cases k1
      refine ⟨a, xs', k, j, rfl, rz2.int ek, k2, by rw [k3.len]; exact ej, ?_⟩
      exact ok.nx _ μ2 σ F4 _ (rel4.writeOwn (k' := .lst (l.set j r1.d)) hl g1 ⟨_, upd_same, k3.set j (Rep.mono (e3.trans e4) _ _ s1)⟩ (fun ps z => by cases z)) ((eA.trans e3).trans e4) q4
end
end PD
set_option Elab.async false
set_option linter.all false
set_option maxRecDepth 100000
set_option maxHeartbeats 4000000
/-! PD13: isinstance of two kinds; lists that are held by many, at an address that is named. -/
namespace PD
open PySem PySem.Spec L2
section
variable {X : Cx} {f : Fm} {W : WX} {e a b cc tg iter : Expr} {es rest : List Expr} {wa wb wc w wi : WE} {wr : WA} {wt wt' wu : WT} {pos : Pos} {env : Ev} {μ μ' : Mu} {σ : L2.St} {F F' H : Hp} {x : Str} {p : Pos} {st : Stmt} {ss : List Stmt} {ws ws' : WS} {n : En} {Dn : Ends} {ad : Addr} {m m' : MO}
theorem kitAny2 {K : PySem.W.Frag} {t n1 n2 : String} {b1 b2 : Bool} (h1 : kitB t n1 = some b1) (h2 : kitB t n2 = some b2) : PySem.W.kitAny K (.type t) [.type n1, .type n2] = some (b1 || b2) :=
  kitAny_cons (kit_ty h1) (fun e => by
    subst e
    exact kitAny_cons (kit_ty h2) (fun e => by subst e; rfl) (fun e => by subst e; rfl)) (fun e => by subst e; rfl)
theorem two_le {α : Type} {x y : α} : [x, y].length ≤ sizeLine := by
  show 2 ≤ sizeLine
  decide
theorem px_isi2 {T1 T2 : Str} {n1 n2 : String} {g1 g2 : String → Bool} {q1 q2 q3 : Pos} {k : Nat} (hK : X.K = f.c.K) (hm : X.mg "isinstance" = none) (hT1 : X.mg T1 = none) (hT2 : X.mg T2 = none) (hv1 : bootBuiltins T1 = some (.type n1)) (hv2 : bootBuiltins T2 = some (.type n2)) (hg1 : ∀ t ∈ kinds, kitB t n1 = some (g1 t)) (hg2 : ∀ t ∈ kinds, kitB t n2 = some (g2 t))
    (ha : PX X f W a wa) (gl : Gl X "isinstance" := by rfl) (gT1 : Gl X T1 := by rfl) (gT2 : Gl X T2 := by rfl)
    (hn1 : T1 ≠ "__name__" := by decide) (hd1 : (T1 == ("__debug__" : Str)) = false := by decide) (hn2 : T2 ≠ "__name__" := by decide) (hd2 : (T2 == ("__debug__" : Str)) = false := by decide)
    (hs : starEach [a, .Tuple [.Name T1 q1, .Name T2 q2] k q3] X.env = (false, eval a X.env) :: starEach [.Tuple [.Name T1 q1, .Name T2 q2] k q3] X.env := by rfl)
    (hs2 : starEach [.Tuple [.Name T1 q1, .Name T2 q2] k q3] X.env = (false, eval (.Tuple [.Name T1 q1, .Name T2 q2] k q3) X.env) :: starEach [] X.env := by rfl)
    (hs3 : starEach [.Name T1 q1, .Name T2 q2] X.env = (false, eval (.Name T1 q1) X.env) :: starEach [.Name T2 q2] X.env := by rfl) (hs4 : starEach [.Name T2 q2] X.env = (false, eval (.Name T2 q2) X.env) :: starEach [] X.env := by rfl)
    (hpl : (backTo pos (starEach [.Tuple [.Name T1 q1, .Name T2 q2] k q3] X.env)).any (·.1) = false := by rfl) : PX X f W (.Call (.Name "isinstance" p) [a, .Tuple [.Name T1 q1, .Name T2 q2] k q3] [] pos) (wUn (dIsi fun t => g1 t || g2 t) wa) :=
  pe_imp (pe_callB call_isiT gl hm (by decide +kernel) (pa_cons ha (pa_cons (pe_tup (pa_cons (pe_bltn (v := .ty n1) gT1 hT1 hv1 rfl hn1 hd1) (pa_cons (pe_bltn (v := .ty n2) gT2 hT2 hv2 rfl hn2 hd2) pa_nil hs4) hs3)) pa_nil hs2) hs) (by decide) (by decide) hs hpl) fun σ H Q h => by
    obtain ⟨env, μ, F, Qp, Ep, rel, hw, k, kx⟩ := h
    refine ⟨env, μ, F, _, Ep, rel, hw, fun r1 μ1 v1 F1 H1 rel1 e1 rr1 q1 => ?_, kx⟩
    obtain ⟨F1', rel1', e1', rz1⟩ := settle rel1 rr1
    unfold dIsi at q1
    cases e : r1.d.ty with
    | none => simp only [e] at q1
    | some t =>
      simp only [e] at q1
      refine ⟨two_le, fun tp htp => ?_⟩
      have nt : ∀ ps, HO.tup [V.ty n1, V.ty n2] ≠ .tbl ps := fun ps z => by cases z
      have rel2 := rel1'.laid (o := .tup [V.ty n1, V.ty n2]) htp nt
      exact ⟨v1, tp, [.ty n1, .ty n2], .type t, [.type n1, .type n2], _, rfl, upd_same, .cons (.ty n1) (.cons (.ty n2) .nil), by rw [hK]; exact rep_ty (rz1.rep rel2) e, kitAny2 (hg1 t (ty_kinds e)) (hg2 t (ty_kinds e)),
        k (.fz _) μ1 _ F1' _ rel2 (e1.trans e1') (.bl _) q1⟩
/-! ### lists held by many -/
def muSet (μ : Mu) (a : Addr) (m : MO) : Mu := fun b => if b = a then some m else μ b
theorem muSet_same : muSet μ ad m ad = some m := if_pos rfl
theorem muSet_ne {b : Addr} (e : b ≠ ad) : muSet μ ad m b = μ b := if_neg e
theorem muSet_set : muSet (muSet μ ad m) ad m' = muSet μ ad m' := by
  funext b
  unfold muSet
  split <;> rfl
theorem muSet_self (h : μ ad = some m) : muSet μ ad m = μ := by
  funext b
  unfold muSet
  split
  · rename_i e
    rw [e, h]
  · rfl
theorem muSet_back (h : μ ad = some m) : muSet (muSet μ ad m') ad m = μ := by rw [muSet_set, muSet_self h]
theorem muSet_none {b : Addr} (h : μ ad = some m) (z : μ b = none) : muSet μ ad m' b = none := by
  rw [muSet_ne (fun e => by rw [e, h] at z; cases z)]
  exact z
theorem Fit.swap (q : Fit f μ F H) (h : μ ad = some m) (h' : MoAt f.c F H ad m') : Fit f (muSet μ ad m') F H :=
  { q with
    mu := fun b k hb => by
      by_cases e : b = ad
      · subst e
        rw [muSet_same] at hb
        cases hb
        obtain ⟨h1, h2, _⟩ := q.mu b m h
        exact ⟨h1, h2, h'⟩
      · rw [muSet_ne e] at hb
        exact q.mu b k hb }
theorem Rel.swap (q : Rel f env μ σ F H) (h : μ ad = some m) (h' : MoAt f.c F H ad m') : Rel f env (muSet μ ad m') σ F H :=
  { q.toFit.swap h h' with
    len := q.len
    dj := q.dj
    sl := fun i sv hi => by
      cases sv with
      | val d => exact q.sl i _ hi
      | own k =>
        obtain ⟨a', h1, h2, h3, h4, h5⟩ := q.sl i _ hi
        exact ⟨a', h1, h2, h3, muSet_none h h4, h5⟩ }
theorem RR.swap {v : V} {r : R} (h : μ ad = some m) (rr : RR f env μ σ F H v r) : RR f env (muSet μ ad m') σ F H v r := by
  cases r with
  | fz d => exact rr
  | bor i k => exact rr
  | fresh k =>
    obtain ⟨a, h1, h2, h3, h4, h5, h6⟩ := rr
    exact ⟨a, h1, h2, h3, muSet_none h h4, h5, h6⟩
/-- what is fresh becomes one that is held by many -/
theorem Rel.share (q : Rel f env μ σ F H) (nf : F ad = none) (nb : f.B ad = none) (nm : μ ad = none) (no : ∀ (i : Nat) (k' : Cont), env[i]? = some (some (.own k')) → σ[i]? ≠ some (some (.ref ad))) (h : MoAt f.c F H ad m) : Rel f env (muSet μ ad m) σ F H :=
  { q with
    mu := fun b k hb => by
      by_cases e : b = ad
      · subst e
        rw [muSet_same] at hb
        cases hb
        exact ⟨nf, nb, h⟩
      · rw [muSet_ne e] at hb
        exact q.mu b k hb
    sl := fun i sv hi => by
      cases sv with
      | val d => exact q.sl i _ hi
      | own k =>
        obtain ⟨a', h1, h2, h3, h4, h5⟩ := q.sl i _ hi
        exact ⟨a', h1, h2, h3, by rw [muSet_ne (fun e => no i k hi (by rw [← e]; exact h1))]; exact h4, h5⟩ }
/-- x = e, e's list held by many from now on -/
def wAsgJ (i : Nat) (wa : WE) : WS := fun n env μ => wa env μ (fun r μ1 => match r with
  | .fresh (.lst l) => ∀ a, μ1 a = none → n.nx (env.set i (some (.val (.hnd a)))) (muSet μ1 a (.box l))
  | _ => False) n.ex
theorem px_setJ {i : Nat} {pos' : Pos} (hN : X.N.Nodup) (hi : X.N[i]? = some x) (hx : Loc X.env.scope x) (he : PX X f W e wa) (hs : swapsWith e (some (.Name x pos')) pos.line X.env = pure false := by rfl)
    (hf : X.fn x = true ∨ X.env.scope.names.lookup x = some .local := by first | exact .inl rfl | exact .inr rfl) : PXS X f W (.Assign [.Name x pos'] e pos) (wAsgJ i wa) := ps_imp (ps_set hN hi hx he hs hf) fun D σ H h => by
  obtain ⟨env, μ, F, n, rel, hw, ok⟩ := h
  refine ⟨env, μ, F, _, _, rel, hw, fun r1 μ1 v1 F1 H1 rel1 e1 rr1 q1 => ?_, fun x μ2 cls d F2 H2 rel2 e2 xr q2 => ok.ex x env μ2 σ cls d F2 H2 rel2 e2 xr q2⟩
  cases r1 with
  | fz d => exact q1.elim
  | bor i k => exact q1.elim
  | fresh k =>
    cases k with
    | dic ks vs => exact q1.elim
    | dct ks vs => exact q1.elim
    | lst l =>
      obtain ⟨a, rfl, nf, nb, nm, no, hc⟩ := rr1
      exact ok.nx _ _ _ F1 H1 ((rel1.share (m := .box l) nf nb nm no hc).setVal (i := i) (Rep.hnd a)) e1 (q1 a nm)
theorem rz_hnd {v : V} {r : R} (h : RZ f env σ F v r) (e : r.d = .hnd ad) : v = .ref ad := by
  cases r with
  | fz d =>
    subst e
    have h' : Rep f.c F v (.hnd ad) := h
    cases h'
    rfl
  | fresh k => cases k <;> cases e
  | bor j k => cases k <;> cases e
/-- the list at a -/
@[irreducible] def boxAt (μ : Mu) (x : D) (k : Addr → List D → Prop) : Prop := match x with
  | .hnd a => match μ a with
    | some (.box l) => k a l
    | _ => False
  | _ => False
theorem boxAt_of {μ : Mu} {x : D} {k : Addr → List D → Prop} (h : boxAt μ x k) : ∃ a l, x = .hnd a ∧ μ a = some (.box l) ∧ k a l := by
  unfold boxAt at h
  split at h
  · rename_i a
    split at h
    · rename_i l hl
      exact ⟨a, l, rfl, hl, h⟩
    · exact h.elim
  · exact h.elim
/-- x[i] of it -/
def wAtH (wa wb : WE) : WE := fun env μ Q E => wa env μ (fun r1 μ1 => wb env μ1 (fun r2 μ2 => boxAt μ2 r1.d fun _ l => match r2.d with
  | .int i => match atI l i with
    | some d => Q (.fz d) μ2
    | none => False
  | _ => False) E) E
theorem px_atH (ha : PX X f W a wa) (hb : PX X f W b wb) (hs : PlainIx b := by intro _ _; rfl) : PX X f W (.Subscript a b pos) (wAtH wa wb) :=
  pe_imp (pe_ix ix_seq ha hb hs) fun σ H Q h => lf2 (g := fun r1 r2 env μ Qp Ep => boxAt μ r1.d fun _ l => match r2.d with
  | .int i => match atI l i with
    | some d => Qp (.fz d) μ
    | none => False
  | _ => False) (r := rIx X.K) (fun env μ σ F H r1 r2 v1 v2 Q Qp Ep rel z1 z2 hgg k kx => by
    obtain ⟨a, l, ea, hm, q⟩ := boxAt_of hgg
    cases e2 : r2.d <;> simp only [e2] at q <;> first | exact q.elim | skip
    rename_i i
    cases e3 : atI l i with
    | none => simp only [e3] at q
    | some d =>
      simp only [e3] at q
      obtain ⟨_, _, xs, g1, g2⟩ := rel.mu a _ hm
      obtain ⟨v, h1, h2⟩ := reps_at g2 e3
      exact .inl ⟨a, xs, i, v, rz_hnd z1 ea, z2.int e2, SqL.of g1, h1, k (.fz _) μ _ F H rel (Same.refl _) h2 q⟩) σ H Q h
theorem Rel.writeBox {l l' : List D} {xs' : List V} (q : Rel f env μ σ F H) (h : μ ad = some (.box l)) (hr : Reps f.c F xs' l') : Rel f env (muSet μ ad (.box l')) σ F (upd H ad (.lst xs')) := by
  obtain ⟨nf, nb, xs, ho, _⟩ := q.mu ad _ h
  have off : ∀ {b : Addr} {u : HO}, H b = some u → (∀ ps, u = .tbl ps → False) ∧ (∀ φ, u = .ext φ → False) → True := fun _ _ => trivial
  exact {
    bh := fun b u hb => by
      rw [upd_ne (fun e => by rw [e, nb] at hb; cases hb)]
      exact q.bh b u hb
    bn := q.bn
    f0 := q.f0
    fh := fun b u h => by
      rw [upd_ne (ne_of_none h nf)]
      exact q.fh b u h
    fb := q.fb
    ft := q.ft
    mu := fun b k hb => by
      by_cases e : b = ad
      · subst e
        rw [muSet_same] at hb
        cases hb
        exact ⟨nf, nb, xs', upd_same, hr⟩
      · rw [muSet_ne e] at hb
        obtain ⟨h1, h2, h3⟩ := q.mu b k hb
        exact ⟨h1, h2, h3.stay (Same.refl _) fun u q => by rw [upd_ne e]; exact q⟩
    tb := fun p hp => by
      obtain ⟨ps, h1, h2, h3⟩ := q.tb p hp
      have ne : ∀ {b : Addr} {u : HO}, H b = some u → b = ad → u = .lst xs := fun {b u} h e => by
        rw [e, ho] at h
        exact (Option.some.inj h).symm
      refine ⟨ps, by rw [upd_ne (fun e => by cases ne h1 e)]; exact h1, h2, fun pos cv hcv => ?_⟩
      obtain ⟨c', e1, e2⟩ := h3 pos cv hcv
      refine ⟨c', e1, ?_⟩
      rw [upd_ne (fun e => by cases ne e2 e)]
      exact e2
    len := q.len
    dj := q.dj
    sl := fun i sv hi => by
      cases sv with
      | val d => exact q.sl i _ hi
      | own k =>
        obtain ⟨a', h1, h2, h3, h4, h5⟩ := q.sl i _ hi
        exact ⟨a', h1, h2, h3, muSet_none h h4, h5.stay (Same.refl _) fun u q => by
          rw [upd_ne (fun e => by rw [e, h] at h4; cases h4)]
          exact q⟩ }
/-- x[k] = e of it -/
def wSetH (wx wi wv : WE) : WS := fun n env μ => wv env μ (fun r μ1 => r.still fun d => wx env μ1 (fun r1 μ2 => wi env μ2 (fun r2 μ3 => boxAt μ3 r1.d fun a l => match r2.d with
  | .int k => match ixN l.length k with
    | some j => n.nx env (muSet μ3 a (.box (l.set j d)))
    | none => False
  | _ => False) n.ex) n.ex) n.ex
theorem px_setH {ei o : Expr} {tpos : Pos} (hx : PX X f W o wa) (he : PX X f W e wb) (hi : PX X f W ei wi)
    (hs : swapsWithSole [.Subscript o ei tpos] e pos.line X.env = pure false := by rfl) (hw : swappedStores [.Subscript o ei tpos] e X.env = pure none := by rfl) (h1 : (assignEach [.Subscript o ei tpos] X.env).map (·.2) = [assign (.Subscript o ei tpos) X.env] := by rfl)
    (ha : ∀ v, assign (.Subscript o ei tpos) X.env v = (do
      let whole ← holding [v] (eval o X.env)
      let place ← holding [v, whole] (eval ei X.env)
      standAt tpos
      holding [v, whole, place] (setItem whole place v)
      release [v, whole, place] []) := by intro _; rfl) :
    PXS X f W (.Assign [.Subscript o ei tpos] e pos) (wSetH wa wi wb) :=
  ps_imp (ps_asg he (pg_sub hx hi set_list ha) hs hw h1) fun Dn σ H h => by
    obtain ⟨env, μ, F, n, rel, hw, ok⟩ := h
    refine ⟨env, μ, F, _, _, rel, hw, fun r1 μ1 v1 F1 H1 rel1 e1 rr1 q1 => ?_, fun x μ2 cls d F2 H2 rel2 e2 xr q2 => ok.ex x env μ2 σ cls d F2 H2 rel2 e2 xr q2⟩
    obtain ⟨F2, rel2, e2, rz1⟩ := settle rel1 rr1
    obtain ⟨s1, q2⟩ := still_ok rz1 q1
    have eA := e1.trans e2
    refine ⟨env, μ1, F2, _, _, rel2, q2, fun r2 μ2 v2 F3 H3 rel3 e3 rr2 q3 => ?_, fun x μ2 cls d F2 H2 rel2 e2 xr q2 => ok.ex x env μ2 σ cls d F2 H2 rel2 (eA.trans e2) xr q2⟩
    obtain ⟨F4, rel4, e4, rz2⟩ := settle rel3 rr2
    have eB := (eA.trans e3).trans e4
    refine ⟨env, μ2, F4, _, _, rel4, q3, fun r3 μ3 v3 F5 H5 rel5 e5 rr3 q4 => ?_, fun x μ2 cls d F2 H2 rel2 e2 xr q2 => ok.ex x env μ2 σ cls d F2 H2 rel2 (eB.trans e2) xr q2⟩
    obtain ⟨F6, rel6, e6, rz3⟩ := settle rel5 rr3
    obtain ⟨ad, l, ea, hm, q5⟩ := boxAt_of q4
    cases ek : r3.d <;> simp only [ek] at q5 <;> first | exact q5.elim | skip
    rename_i k
    cases ej : ixN l.length k with
    | none => simp only [ej] at q5
    | some j =>
      simp only [ej] at q5
      obtain ⟨_, _, xs, g1, g2⟩ := rel6.mu ad _ hm
      refine ⟨ad, xs, k, j, rz_hnd rz2 ea, rz3.int ek, g1, by rw [g2.len]; exact ej, ?_⟩
      exact ok.nx _ _ σ F6 _ (rel6.writeBox hm (g2.set j (Rep.mono (((e3.trans e4).trans e5).trans e6) _ _ s1))) ((eB.trans e5).trans e6) q5
/-! ### the law's jar -/
def JarOk (ns : List Int) (i cr sd n : Int) : Prop := ns.length ≤ 63 ∧ 0 ≤ i ∧ 0 ≤ cr ∧ 0 ≤ sd ∧ sd < 2147483629 ∧ 0 ≤ n
def jarL (ns : List Int) (i cr sd n : Int) : List D := [.lst (ns.map .int), .int i, .int cr, .int sd, .int n]
theorem jar_box (h : MoAt f.c F H ad .jar) : ∃ ns i cr sd n, JarOk ns i cr sd n ∧ MoAt f.c F H ad (.box (jarL ns i cr sd n)) := by
  obtain ⟨l, ns, i, cr, sd, n, h1, h2, h3⟩ := h
  exact ⟨ns, i, cr, sd, n, h3, _, h1, .cons (.lst h2 (Reps.ints ns)) (.cons (.int _) (.cons (.int _) (.cons (.int _) (.cons (.int _) .nil))))⟩
theorem reps_ints {c : Cfg} : ∀ {ns : List Int} {xs : List V}, Reps c F xs (ns.map D.int) → xs = ns.map V.int
  | [], _, .nil => rfl
  | _ :: _, _, .cons a t => by
    cases a
    rw [reps_ints t]
    rfl
theorem box_jar {ns : List Int} {i cr sd n : Int} (h : JarOk ns i cr sd n) (h' : MoAt f.c F H ad (.box (jarL ns i cr sd n))) : MoAt f.c F H ad .jar := by
  obtain ⟨xs, h1, h2⟩ := h'
  cases h2 with
  | cons a1 h2 =>
    cases h2 with
    | cons a2 h2 =>
      cases h2 with
      | cons a3 h2 =>
        cases h2 with
        | cons a4 h2 =>
          cases h2 with
          | cons a5 h2 =>
            cases h2
            cases a1 with
            | lst s r =>
              cases a2
              cases a3
              cases a4
              cases a5
              have := reps_ints r
              subst this
              exact ⟨_, ns, i, cr, sd, n, h1, s, h⟩
/-- the jar is opened -/
def wOpen (i : Nat) (w : WS) : WS := fun n env μ => match env[i]? with
  | some (some (.val (.hnd a))) => μ a = some .jar ∧ ∀ ns it cr sd nn, JarOk ns it cr sd nn → w n env (muSet μ a (.box (jarL ns it cr sd nn)))
  | _ => False
/-- .. and shut behind a return -/
def shutR (a : Addr) (n : En) : En := { n with rt := fun r μ => (∃ ns it cr sd nn, JarOk ns it cr sd nn ∧ μ a = some (.box (jarL ns it cr sd nn))) ∧ n.rt r (muSet μ a .jar), nx := fun _ _ => False }
def wShut (i : Nat) (w : WS) : WS := fun n env μ => match env[i]? with
  | some (some (.val (.hnd a))) => w (shutR a n) env μ
  | _ => False
theorem pxs_open {i : Nat} (h : PXSs X f W ss ws) : PXSs X f W ss (wOpen i ws) := pss_imp h fun Dn σ H q => by
  obtain ⟨env, μ, F, n, rel, hw, ok⟩ := q
  unfold wOpen at hw
  split at hw
  · rename_i a ha
    obtain ⟨h1, h2⟩ := hw
    obtain ⟨_, _, h3⟩ := rel.mu a _ h1
    obtain ⟨ns, it, cr, sd, nn, hj, hb⟩ := jar_box h3
    exact ⟨env, _, F, n, rel.swap h1 hb, h2 ns it cr sd nn hj, ok⟩
  · exact hw.elim
theorem pxs_shut {i : Nat} (h : PXSs X f W ss ws) : PXSs X f W ss (wShut i ws) := pss_imp h fun Dn σ H q => by
  obtain ⟨env, μ, F, n, rel, hw, ok⟩ := q
  unfold wShut at hw
  split at hw
  · rename_i a ha
    refine ⟨env, μ, F, _, rel, hw, fun _ _ _ _ _ _ _ q => q.elim, ok.bk, ok.ct, fun r env' μ' σ' v F' H' rel' e' rr q => ?_, ok.ex⟩
    obtain ⟨⟨ns, it, cr, sd, nn, hj, hm⟩, q⟩ := q
    obtain ⟨_, _, h3⟩ := rel'.mu a _ hm
    exact ok.rt r env' _ σ' v F' H' (rel'.swap hm (box_jar hj h3)) e' (rr.swap hm) q
  · exact hw.elim
/-- a list of the jar's kind becomes the jar -/
def wJar (i : Nat) (w : WS) : WS := fun n env μ => match env[i]? with
  | some (some (.val (.hnd a))) => (∃ ns it cr sd nn, JarOk ns it cr sd nn ∧ μ a = some (.box (jarL ns it cr sd nn))) ∧ w n env (muSet μ a .jar)
  | _ => False
theorem pxs_jar {i : Nat} (h : PXSs X f W ss ws) : PXSs X f W ss (wJar i ws) := pss_imp h fun Dn σ H q => by
  obtain ⟨env, μ, F, n, rel, hw, ok⟩ := q
  unfold wJar at hw
  split at hw
  · rename_i a ha
    obtain ⟨⟨ns, it, cr, sd, nn, hj, hm⟩, q⟩ := hw
    obtain ⟨_, _, h3⟩ := rel.mu a _ hm
    exact ⟨env, _, F, n, rel.swap hm (box_jar hj h3), q, ok⟩
  · exact hw.elim
end
end PD
set_option Elab.async false
set_option linter.all false
set_option maxRecDepth 100000
set_option maxHeartbeats 4000000
/-! PD14: the refusals' own __init__; keywords that fill all; calls whose defaults are told by a fact. -/
namespace PD
open PySem PySem.Spec L2
section
variable {P : Program} {w : World} {K : PySem.W.Frag} {mg : Str → Option Value} {base : Heap} {k : Nat} {f fR : Addr} {fd fdR : FuncData}
abbrev reBody (q0 q1 q2 q3 q4 q5 q6 q7 q8 q9 : Pos) : List Stmt := [.Expr (.Call (.Attribute (.Name "ValueError" q0) "__init__" q1) [.Name "self" q2, .Name "called" q3] [] q4) q5, .Assign [.Attribute (.Name "self" q6) "called" q7] (.Name "called" q8) q9]
abbrev bxBody (nm : Str) (j : Nat) (q0 q1 q2 q3 q4 q5 : Pos) : List Stmt := [.Expr (.Call (.Attribute (.Name "RowError" q0) "__init__" q1) [.Name "self" q2, .Constant (.str nm) j q3] [] q4) q5]
theorem pss_re {X : Cx} {q0 q1 q2 q3 q4 q5 q6 q7 q8 q9 : Pos} (hN : X.N = (["self", "called"] : List Str)) (h1 : X.env.scope.names.lookup ("self" : Str) = some .local) (h2 : X.env.scope.names.lookup ("called" : Str) = some .local) (hg : Gl X "ValueError") (hm : X.mg "ValueError" = none)
    (vV : PySem.W.findCls X.K (.type "ValueError") (.type "type") "__init__" = some (.val (.builtin "ValueError.__init__"))) {pl : Sem Bool}
    (hc : eval (.Call (.Attribute (.Name "ValueError" q0) "__init__" q1) [.Name "self" q2, .Name "called" q3] [] q4) X.env = (do
      let ov ← eval (.Name "ValueError" q0) X.env
      standAt q1.atName
      let (f, first) ← holding [ov] (getMethod ov "__init__" pl)
      callWith q4 f first (backTo q4 (starEach [.Name "self" q2, .Name "called" q3] X.env)) (backToKw q4 (keywordEach [] X.env))))
    (hs1 : swapsWith (.Call (.Attribute (.Name "ValueError" q0) "__init__" q1) [.Name "self" q2, .Name "called" q3] [] q4) none q5.line X.env = pure false)
    (hs2 : swapsWith (.Name "called" q8) (some (.Attribute (.Name "self" q6) "called" q7)) q9.line X.env = pure false) :
    PSs X (reBody q0 q1 q2 q3 q4 q5 q6 q7 q8 q9) (fun D σ H => ∃ (a C : Addr) (z : V), σ[0]? = some (some (.ref a)) ∧ σ[1]? = some (some z) ∧ OexC X.K C ∧ PySem.W.findIn X.K (.ref C) "called" = some none ∧ H a = some (exo a C none) ∧
      ∀ dx, H dx = none → dx ≠ a → D.nx σ (upd (upd H dx (exd dx [("called", z)])) a (exo a C (some dx)))) := by
  have n0 : X.N[0]? = some ("self" : Str) := by rw [hN] <;> rfl
  have n1 : X.N[1]? = some ("called" : Str) := by rw [hN] <;> rfl
  have vs : Vis X.env.scope "self" := .inl h1
  have vc : Vis X.env.scope "called" := .inl h2
  refine pss_imp (pss_cons (ps_expr (pe_veinit hg hm vV (pa_cons (pe_var (i := 0) n0 vs) (pa_cons (pe_var (i := 1) n1 vc) pa_nil)) hc) hs1)
    (pss_one (ps_ost (pe_var (i := 0) n0 vs) (pe_var (i := 1) n1 vc) hs2))) fun D σ H h => ?_
  obtain ⟨a, C, z, g0, g1, T, hno, ha, k⟩ := h
  exact ⟨.ref a, g0, z, g1, a, C, [z], rfl, (by show 1 ≤ 1000; omega), T, ha, z, g1, .ref a, g0, a, C, rfl, T, hno, .inl ⟨ha, k⟩⟩
theorem fn_re {st : Stmt} {qual : Str} (F : Fun K "__init__" qual st f fd) (S : FnScope ["self", "called"] ["self", "called"] (defScope st)) (hm : mg "ValueError" = none) (vV : PySem.W.findCls K (.type "ValueError") (.type "type") "__init__" = some (.val (.builtin "ValueError.__init__")))
    (hb : ∀ (cdv : Value) (A : Around) (outer : List Env) (s : Shared) (H : Hp) (E : XK), PSs (cxOf (L2.CX P w) P w K mg base ["self", "called"] qual (defScope st) f cdv A outer s H E) (defBody st) (fun D σ H => ∃ (a C : Addr) (z : V), σ[0]? = some (some (.ref a)) ∧ σ[1]? = some (some z) ∧ OexC K C ∧ PySem.W.findIn K (.ref C) "called" = some none ∧ H a = some (exo a C none) ∧
      ∀ dx, H dx = none → dx ≠ a → D.nx σ (upd (upd H dx (exd dx [("called", z)])) a (exo a C (some dx))))) : FnOk P w K mg base (L2.CX P w) 1 f fd ["self", "called"] (spRE K) := by
  refine F.okX S (fun vs H Q E h => ?_) fun cdv A outer s H vs Q E hr h => ⟨_, hb cdv A outer s H E, ?_⟩
  · obtain ⟨a, C, z, rfl, _⟩ := h
    rfl
  · obtain ⟨a, C, z, rfl, T, hno, ha, k⟩ := h
    exact ⟨a, C, z, rfl, rfl, T, hno, ha, k⟩
theorem fn_bx {st : Stmt} {qual nm : Str} {R : Addr} {mc : Value} {j : Nat} {q0 q1 q2 q3 q4 q5 : Pos} (hbody : defBody st = bxBody nm j q0 q1 q2 q3 q4 q5) (F : Fun K "__init__" qual st f fd) (S : FnScope ["self"] ["self"] (defScope st)) (hself : (defScope st).names.lookup ("self" : Str) = some .local) (hre : (defScope st).names.lookup ("RowError" : Str) = some .globalImplicit) (hm : mg "RowError" = some (.ref R)) (r : ClX.CRead K R mc)
    (c : PySem.W.findCls K (.ref R) mc "__init__" = some (.val (.ref fR))) (hk : PySem.W.keepIn K (.ref fR) = true) (G : FnOk P w K mg base (L2.CX P w) k fR fdR ["self", "called"] (spRE K)) (hb : Binds K fdR ["self", "called"] []) {pl : Value → Nat → Sem Bool}
    (ht : ∀ (cdv : Value) (n : Nat), eval (.Call (.Attribute (.Name "RowError" q0) "__init__" q1) [.Name "self" q2, .Constant (.str nm) j q3] [] q4) (PyProof.Rows.envOfC qual (defScope st) n f cdv) = (do
      let whole ← eval (.Name "RowError" q0) (PyProof.Rows.envOfC qual (defScope st) n f cdv)
      standAt q1.atName
      let (h, first) ← holding [whole] (getMethod whole "__init__" (pl cdv n))
      callWith q4 h first (backTo q4 (starEach [.Name "self" q2, .Constant (.str nm) j q3] (PyProof.Rows.envOfC qual (defScope st) n f cdv))) (backToKw q4 (keywordEach [] (PyProof.Rows.envOfC qual (defScope st) n f cdv)))))
    (hs1 : ∀ (cdv : Value) (n : Nat), swapsWith (.Call (.Attribute (.Name "RowError" q0) "__init__" q1) [.Name "self" q2, .Constant (.str nm) j q3] [] q4) none q5.line (PyProof.Rows.envOfC qual (defScope st) n f cdv) = pure false) :
    FnOk P w K mg base (L2.CX P w) (k + 1) f fd ["self"] (spBX K nm) := by
  refine F.okX S (fun vs H Q E h => ?_) fun cdv A outer s H vs Q E hr h => ?_
  · obtain ⟨a, C, rfl, _⟩ := h
    rfl
  · rw [hbody]
    refine ⟨_, pss_one (ps_expr (pe_clsFn (X := cxOf (L2.CX P w) P w K mg base ["self"] qual (defScope st) f cdv A outer s H E) (E := fun _ _ _ => False) (pe_glob (u := .ref R) (v := .ref R) hre hm rfl) r c hk G hr hb passL (pa_cons (pe_var (i := 0) rfl (.inl hself)) (pa_cons pe_str pa_nil)) rfl rfl (ht cdv _)) (hs1 cdv _)), ?_⟩
    obtain ⟨a, C, rfl, T, hno, ha, k⟩ := h
    exact ⟨rfl, .ref a, rfl, a, C, .str nm, rfl, T, hno, ha, k⟩
end
/-- an error of the class at S is what «except R» names -/
theorem exm_sub {K : PySem.W.Frag} {S R : Addr} (h1 : PySem.W.subIn K (.ref R) (.type "BaseException") = some true) (h2 : PySem.W.isClsIn K R = true) (h3 : PySem.W.typeIn K (.ref R) = some (.type "type")) (h4 : PySem.W.subIn K (.ref S) (.ref R) = some true) :
    PySem.W.exmOne K (.ref S) (.ref R) = some true := by
  have e1 : (PySem.W.subIn K (.ref R) (.type "BaseException") == some true) = true := by rw [h1] <;> rfl
  have e2 : ((PySem.W.clsIn K R).isSome && PySem.W.typeIn K (.ref R) == some (.type "type")) = true := by
    have h2' : (PySem.W.clsIn K R).isSome = true := h2
    rw [h2', h3] <;> rfl
  show (if (PySem.W.subIn K (.ref R) (.type "BaseException") == some true) = true then (if ((PySem.W.clsIn K R).isSome && PySem.W.typeIn K (.ref R) == some (.type "type")) = true then PySem.W.subIn K (.ref S) (.ref R) else none) else none) = some true
  rw [if_pos e1, if_pos e2]
  exact h4
/-! ### keywords that fill all that lacks; defaults -/
theorem FunD.kball {K : PySem.W.Frag} {x qual : Str} {params : Arguments} {body : List Stmt} {scope : Scope} {kws : List (Str × V)} {f : Addr} {fd : FuncData} {ps ks : List Str} {n : Nat} (F : FunD K x qual params body scope [] kws f fd)
    (h : ∀ (kV doc pm : Value) (an : Option Addr) (cdv ct : Value) (us ws : List Value), us.length = n → ws.length = ks.length → bindArgs (PySem.W.fnOf x qual params body scope .none kV doc pm an cdv ct) ⟨us, ks.zip ws⟩ = pure (ps.zip (us ++ ws))) :
    KBd K fd ps n ks (· ++ ·) (· ++ ·) (· ++ ·) := by
  obtain ⟨oc, od, dV, kV, doc, pm, an, cdv, ct, osl, rfl, lk, hcd, hD, hK⟩ := F.ex
  rcases hD with ⟨_, rfl⟩ | ⟨e, _⟩
  · exact { to := fun s us ws _ h1 h2 => .of_eq (h kV doc pm an cdv ct us ws h1 h2), rel := fun r1 r2 => r1.append r2, reps := fun c F vs zs ds es r1 r2 => r1.app r2 }
  · exact absurd rfl e
section
variable {X : Cx} {f : Fm} {W : WX} {e : Expr} {es : List Expr} {wr : WA} {pos : Pos} {x : Str} {p : Pos} {sp : SpD} {dd : List D}
theorem px_callD {k : Nat} {g : Addr} {fd : FuncData} {ps : List Str} {dvs : List V} (G : FnOk X.prog X.w X.K X.mg X.base (L2.CX X.prog X.w) k g fd ps (spOf f.c sp)) (hr : Room k X.A) (hg : Gl X x) (hm : X.mg x = some (.ref g)) (hk : PySem.W.keepIn X.K (.ref g) = true)
    (hb : ∃ dsv, Vals dvs dsv ∧ Binds X.K fd ps dsv) (hdd : ∀ F, Reps f.c F dvs dd) (tk : Takes X W) (ha : PXA X f W (e :: es) wr) (hdb : (x == ("__debug__" : Str)) = false := by decide) (he : starEach (e :: es) X.env = (false, eval e X.env) :: starEach es X.env := by rfl)
    (hpl : (backTo pos (starEach es X.env)).any (·.1) = false := by rfl) : PX X f W (.Call (.Name x p) (e :: es) [] pos) (wCall sp dd wr) := by
  obtain ⟨dsv, hd, hb⟩ := hb
  exact px_call G hr hg hm hk hb hd hdd tk ha hdb he hpl
end
end PD
set_option Elab.async false
set_option linter.all false
set_option maxRecDepth 100000
set_option maxHeartbeats 4000000
/-! PD15: the law's own def, and the end. -/
namespace PD
open PySem PySem.Spec L2
section
variable {P : Program} {w : World} {K : PySem.W.Frag} {mg : Str → Option Value} {base : Heap} {sp : SpD} {N ps : List Str} {k : Nat} {c : Cfg} {g cL : Addr} {fd : FuncData} {x qual : Str} {st : Stmt}
/-- a def that makes lambdas: its code object is known -/
theorem def_okC (F : Fun K x qual st g fd) (hc : fd.code = .ref cL) (S : FnScope N ps (defScope st)) (hl : ∀ ds μ Q E, sp ds μ Q E → ds.length = ps.length)
    (hb : ∃ w' : WS, (∀ (A : Around) (outer : List Env) (s : Shared) (H : Hp) (E : XK) (B F0 : Hp), Room k (A.deeper (PyProof.Rows.envOfC qual (defScope st) s.heap.objs.size g (.ref cL))) →
      PXSs (cxOf (L2.CX P w) P w K mg base N qual (defScope st) g (.ref cL) A outer s H E) ⟨c, B, F0⟩ (fun cls d _ H => E cls d H) (defBody st) w') ∧
    ∀ ds μ Qp Ep, sp ds μ Qp Ep → w' (endsOf Qp Ep) (startE N ds) μ) : FnOk P w K mg base (L2.CX P w) (k + 1) g fd ps (spOf c sp) := by
  obtain ⟨w', h1, h2⟩ := hb
  obtain ⟨oc, od, kV, doc, pm, an, cdv, ct, osl, rfl, lk, hcd⟩ := F.ex
  have hc' : cdv = .ref cL := hc
  subst hc'
  refine fn_of lk hcd S (sp_len hl) fun A outer s H vs Q E hr h => ?_
  obtain ⟨f, ec, hq⟩ := body_ok (ws := w') (N := N) (t := L2.tNext) h fun _ _ => h2
  obtain ⟨c', B, F0⟩ := f
  obtain rfl : c' = c := ec
  exact ⟨_, h1 A outer s H E B F0 hr, hq⟩
theorem cx_none (H : Hp) (s : Shared) (e : Value) (s' : Shared) (h : L2.CX P w [] H s (fun _ _ _ => False) e s') : False := by
  obtain ⟨_, _, _, _, _, _, _, _, _, _, _, _, z⟩ := h
  exact z.elim
def mu0 : Mu := fun _ => none
/-- the law's promise, plainly: the script's numbers in, True out -/
def SpLaw (n : Nat) (sp : SpD) : Prop := ∀ (ns : List Int) (Q : R → Mu → Prop) (E : Exc → Mu → Prop), ns.length ≤ 63 → (∀ z ∈ ns, Builtin.Int.intBits z ≤ 1048576) → (∀ μ, Q (.fz (.bl true)) μ) → sp [.scr ns] mu0 Q E
theorem law_sp {H : Hp} {a : Addr} {ns : List Int} (hT : ∀ p ∈ c.T, H p.1 = some (.tbl #[])) (hS : SqL c.K H a (ns.map V.int)) (hl : ns.length ≤ 63) (hz : ∀ z ∈ ns, Builtin.Int.intBits z ≤ 1048576) (h : SpLaw 63 sp) :
    spOf c sp [.ref a] H (fun v _ => v = .bl true) (fun _ _ _ => False) := by
  have sm : Same (entryB mu0 H) H := fun b o hb => (entryB_some hb).1
  have hS' : SqL c.K (entryB mu0 H) a (ns.map V.int) := by
    rcases hS with (h1 | ⟨o, h1⟩) | h1
    · exact .inl (.inl (entryB_of h1 rfl fun ps z => by cases z))
    · exact .inl (.inr ⟨o, entryB_of h1 rfl fun ps z => by cases z⟩)
    · exact .inr h1
  have fit : Fit ⟨c, entryB mu0 H, entryB mu0 H⟩ mu0 (entryB mu0 H) H :=
    { bh := fun b o hb => (entryB_some (μ := mu0) hb).1
      bn := fun b ps hb => (entryB_some (μ := mu0) (H := H) hb).2.2 ps rfl
      f0 := Same.refl _
      fh := sm
      fb := fun b o hb => .inl hb
      ft := fun b ps hb => (entryB_some (μ := mu0) (H := H) hb).2.2 ps rfl
      mu := fun a m hm => nomatch (show (none : Option MO) = some m from hm)
      tb := fun p hp => ⟨#[], hT p hp, trivial, fun pos cv hcv => nomatch (show (none : Option Value) = some cv from hcv)⟩ }
  refine ⟨[.scr ns], mu0, entryB mu0 H, entryB mu0 H, fun r _ => r = .fz (.bl true), fun _ _ => False, .cons (.scr hS' hl) .nil, fit, fun b o hb _ nt => entryB_of hb rfl nt, h ns _ _ hl hz fun _ => rfl, fun r μ' v F' H' _ rr q => ?_, fun _ _ _ _ _ _ _ _ q => q.elim⟩
  subst q
  have rr' : Rep c F' v (.bl true) := rr
  cases rr'
  rfl
end
end PD
set_option Elab.async false
set_option linter.all false
set_option maxRecDepth 100000
set_option maxHeartbeats 4000000
/-! PD16: isinstance by the datum's shape. -/
namespace PD
open PySem PySem.Spec L2
def isInt : D → Option Bool
  | .int _ => some true
  | .bl _ => some true
  | .non => some false
  | .str _ => some false
  | .tup _ => some false
  | .lst _ => some false
  | .dic _ _ => some false
  | _ => none
def isBool : D → Option Bool
  | .int _ => some false
  | .bl _ => some true
  | .non => some false
  | .str _ => some false
  | .tup _ => some false
  | .lst _ => some false
  | .dic _ _ => some false
  | _ => none
def isStr : D → Option Bool
  | .int _ => some false
  | .bl _ => some false
  | .non => some false
  | .str _ => some true
  | .tup _ => some false
  | .lst _ => some false
  | .dic _ _ => some false
  | _ => none
def isTup : D → Option Bool
  | .int _ => some false
  | .bl _ => some false
  | .non => some false
  | .str _ => some false
  | .tup _ => some true
  | .lst _ => some false
  | .dic _ _ => some false
  | _ => none
def isLst : D → Option Bool
  | .int _ => some false
  | .bl _ => some false
  | .non => some false
  | .str _ => some false
  | .tup _ => some false
  | .lst _ => some true
  | .dic _ _ => some false
  | _ => none
def KindOf (n : String) (g : D → Option Bool) : Prop := ∀ d b, g d = some b → ∃ t, d.ty = some t ∧ kitB t n = some b
theorem kit_int : KindOf "int" isInt := fun d b h => by cases d <;> simp [isInt] at h <;> subst h <;> exact ⟨_, rfl, by decide +kernel⟩
theorem kit_bool : KindOf "bool" isBool := fun d b h => by cases d <;> simp [isBool] at h <;> subst h <;> exact ⟨_, rfl, by decide +kernel⟩
theorem kit_str : KindOf "str" isStr := fun d b h => by cases d <;> simp [isStr] at h <;> subst h <;> exact ⟨_, rfl, by decide +kernel⟩
theorem kit_tuple : KindOf "tuple" isTup := fun d b h => by cases d <;> simp [isTup] at h <;> subst h <;> exact ⟨_, rfl, by decide +kernel⟩
theorem kit_list : KindOf "list" isLst := fun d b h => by cases d <;> simp [isLst] at h <;> subst h <;> exact ⟨_, rfl, by decide +kernel⟩
theorem boot_ty_int : bootBuiltins "int" = some (.type "int") := by decide +kernel
theorem boot_ty_bool : bootBuiltins "bool" = some (.type "bool") := by decide +kernel
theorem boot_ty_str : bootBuiltins "str" = some (.type "str") := by decide +kernel
theorem boot_ty_tuple : bootBuiltins "tuple" = some (.type "tuple") := by decide +kernel
theorem boot_ty_list : bootBuiltins "list" = some (.type "list") := by decide +kernel
def or2 (g g' : D → Option Bool) : D → Option Bool := fun d => match g d, g' d with
  | some a, some b => some (a || b)
  | _, _ => none
def dIsD (g : D → Option Bool) (x : D) (Q : R → Prop) : Prop := match g x with
  | some b => Q (.fz (.bl b))
  | none => False
section
variable {X : Cx} {f : Fm} {W : WX} {a : Expr} {wa : WE} {pos p : Pos} {env : Ev} {μ : Mu} {σ : L2.St} {F H : Hp}
theorem px_isiD {T : Str} {n : String} {g : D → Option Bool} {pn : Pos} (hK : X.K = f.c.K) (hm : X.mg "isinstance" = none) (hT : X.mg T = none) (hv : bootBuiltins T = some (.type n)) (hg : KindOf n g) (ha : PX X f W a wa) (gl : Gl X "isinstance" := by rfl) (gT : Gl X T := by rfl)
    (hn : T ≠ "__name__" := by decide) (hdT : (T == ("__debug__" : Str)) = false := by decide) (hs : starEach [a, .Name T pn] X.env = (false, eval a X.env) :: starEach [.Name T pn] X.env := by rfl) (hs2 : starEach [.Name T pn] X.env = (false, eval (.Name T pn) X.env) :: starEach [] X.env := by rfl)
    (hpl : (backTo pos (starEach [.Name T pn] X.env)).any (·.1) = false := by rfl) : PX X f W (.Call (.Name "isinstance" p) [a, .Name T pn] [] pos) (wUn (dIsD g) wa) :=
  pe_imp (pe_callB call_isi gl hm (by decide +kernel) (pa_cons ha (pa_cons (pe_bltn (v := .ty n) gT hT hv rfl hn hdT) pa_nil hs2) hs) (by decide) (by decide) hs hpl) fun σ H Q h =>
    lf1k (g := fun r0 env μ0 Qp Ep => dIsD g r0.d fun r => Qp r μ0) (r := fun v σ H1 Q => rIsi X.K [v, .ty n] H1 Q) (fun r0 v σ H Q ⟨env, μ, F, Qp, Ep, rel, rz, q, k, kx⟩ => by
      unfold dIsD at q
      cases e : g r0.d with
      | none => simp only [e] at q
      | some b =>
        simp only [e] at q
        obtain ⟨t, e1, e2⟩ := hg _ _ e
        exact ⟨v, .ty n, .type t, .type n, b, rfl, .ty n, by rw [hK]; exact rep_ty (rz.rep rel) e1, kit_ty e2, k (.fz _) μ _ F H rel (Same.refl _) (.bl _) q⟩) σ H Q h
theorem px_isi2D {T1 T2 : Str} {n1 n2 : String} {g1 g2 : D → Option Bool} {q1 q2 q3 : Pos} {k : Nat} (hK : X.K = f.c.K) (hm : X.mg "isinstance" = none) (hT1 : X.mg T1 = none) (hT2 : X.mg T2 = none) (hv1 : bootBuiltins T1 = some (.type n1)) (hv2 : bootBuiltins T2 = some (.type n2)) (hg1 : KindOf n1 g1) (hg2 : KindOf n2 g2)
    (ha : PX X f W a wa) (gl : Gl X "isinstance" := by rfl) (gT1 : Gl X T1 := by rfl) (gT2 : Gl X T2 := by rfl)
    (hn1 : T1 ≠ "__name__" := by decide) (hd1 : (T1 == ("__debug__" : Str)) = false := by decide) (hn2 : T2 ≠ "__name__" := by decide) (hd2 : (T2 == ("__debug__" : Str)) = false := by decide)
    (hs : starEach [a, .Tuple [.Name T1 q1, .Name T2 q2] k q3] X.env = (false, eval a X.env) :: starEach [.Tuple [.Name T1 q1, .Name T2 q2] k q3] X.env := by rfl)
    (hs2 : starEach [.Tuple [.Name T1 q1, .Name T2 q2] k q3] X.env = (false, eval (.Tuple [.Name T1 q1, .Name T2 q2] k q3) X.env) :: starEach [] X.env := by rfl)
    (hs3 : starEach [.Name T1 q1, .Name T2 q2] X.env = (false, eval (.Name T1 q1) X.env) :: starEach [.Name T2 q2] X.env := by rfl) (hs4 : starEach [.Name T2 q2] X.env = (false, eval (.Name T2 q2) X.env) :: starEach [] X.env := by rfl)
    (hpl : (backTo pos (starEach [.Tuple [.Name T1 q1, .Name T2 q2] k q3] X.env)).any (·.1) = false := by rfl) : PX X f W (.Call (.Name "isinstance" p) [a, .Tuple [.Name T1 q1, .Name T2 q2] k q3] [] pos) (wUn (dIsD (or2 g1 g2)) wa) :=
  pe_imp (pe_callB call_isiT gl hm (by decide +kernel) (pa_cons ha (pa_cons (pe_tup (pa_cons (pe_bltn (v := .ty n1) gT1 hT1 hv1 rfl hn1 hd1) (pa_cons (pe_bltn (v := .ty n2) gT2 hT2 hv2 rfl hn2 hd2) pa_nil hs4) hs3)) pa_nil hs2) hs) (by decide) (by decide) hs hpl) fun σ H Q h => by
    obtain ⟨env, μ, F, Qp, Ep, rel, hw, k, kx⟩ := h
    refine ⟨env, μ, F, _, Ep, rel, hw, fun r1 μ1 v1 F1 H1 rel1 e1 rr1 q1 => ?_, kx⟩
    obtain ⟨F1', rel1', e1', rz1⟩ := settle rel1 rr1
    unfold dIsD or2 at q1
    cases e : g1 r1.d with
    | none => simp only [e] at q1
    | some b1 =>
      cases e' : g2 r1.d with
      | none => simp only [e, e'] at q1
      | some b2 =>
        simp only [e, e'] at q1
        obtain ⟨t, t1, t2⟩ := hg1 _ _ e
        obtain ⟨t', t3, t4⟩ := hg2 _ _ e'
        rw [t1] at t3
        cases t3
        refine ⟨two_le, fun tp htp => ?_⟩
        have nt : ∀ ps, HO.tup [V.ty n1, V.ty n2] ≠ .tbl ps := fun ps z => by cases z
        have rel2 := rel1'.laid (o := .tup [V.ty n1, V.ty n2]) htp nt
        exact ⟨v1, tp, [.ty n1, .ty n2], .type t, [.type n1, .type n2], _, rfl, upd_same, .cons (.ty n1) (.cons (.ty n2) .nil), by rw [hK]; exact rep_ty (rz1.rep rel2) t1, kitAny2 t2 t4,
          k (.fz _) μ1 _ F1' _ rel2 (e1.trans e1') (.bl _) q1⟩
end
end PD
set_option Elab.async false
set_option linter.all false
set_option maxRecDepth 100000
set_option maxHeartbeats 4000000
/-! PD17: plain readings that come often. -/
namespace PD
open PySem PySem.Spec L2
section
variable {wg : WG} {we : WE} {vs : List Nat} {env : Ev} {μ : Mu} {K : List D → Mu → Prop}
/-- [g(d) for d in l] -/
theorem lcl_map (g : D → D) : ∀ (l acc : List D), (∀ d ∈ l, ∀ P : D → Mu → Prop, P (g d) μ → wg d (wipeE env vs) fun env' => we env' μ (fun r μ2 => r.still fun y => P y μ2) noX) → acc.length + l.length ≤ sizeLine → K (acc ++ l.map g) μ →
    wLcL wg wYes we vs K env l acc μ
  | [], acc, _, _, k => by
    rw [List.map_nil, List.append_nil] at k
    exact k
  | d :: l, acc, h, hl, k => by
    have hl' : acc.length + (l.length + 1) ≤ sizeLine := hl
    have ih := lcl_map g l (acc ++ [g d]) (fun d' hd => h d' (List.mem_cons_of_mem _ hd)) (by rw [List.length_append]; show acc.length + 1 + l.length ≤ sizeLine; omega) (by rw [List.append_assoc]; exact k)
    exact h d (List.mem_cons_self ..) (fun y μ2 => acc.length < sizeLine ∧ wLcL wg wYes we vs K env l (acc ++ [y]) μ2) ⟨by omega, ih⟩
/-- .. of drawn numbers -/
theorem lcl_ints (S : Int → Prop) : ∀ (l acc : List D), (∀ d ∈ l, ∀ P : D → Mu → Prop, (∀ k, S k → P (.int k) μ) → wg d (wipeE env vs) fun env' => we env' μ (fun r μ2 => r.still fun y => P y μ2) noX) → acc.length + l.length ≤ sizeLine →
    (∀ ks : List Int, ks.length = l.length → (∀ k ∈ ks, S k) → K (acc ++ ks.map .int) μ) → wLcL wg wYes we vs K env l acc μ
  | [], acc, _, _, k => by
    have := k [] rfl (fun _ h => nomatch h)
    rw [List.map_nil, List.append_nil] at this
    exact this
  | d :: l, acc, h, hl, k => by
    have hl' : acc.length + (l.length + 1) ≤ sizeLine := hl
    refine h d (List.mem_cons_self ..) (fun y μ2 => acc.length < sizeLine ∧ wLcL wg wYes we vs K env l (acc ++ [y]) μ2) fun z hz => ⟨by omega, ?_⟩
    refine lcl_ints S l (acc ++ [.int z]) (fun d' hd => h d' (List.mem_cons_of_mem _ hd)) (by rw [List.length_append]; show acc.length + 1 + l.length ≤ sizeLine; omega) fun ks hk hs => ?_
    rw [List.append_assoc]
    exact k (z :: ks) (by rw [List.length_cons, List.length_cons, hk]) fun x hx => by
      rcases List.mem_cons.mp hx with rfl | hx
      · exact hz
      · exact hs x hx
end
section
variable {X : Cx} {f : Fm} {W : WX} {a b : Expr} {wa wb : WE} {pos : Pos}
theorem opD_isN : OpD X f (fun x y H Q => y = .non ∧ Q (.bl (decide (x = .non))) H) (dIs id) := fun env μ σ F H r1 r2 v1 v2 Q Qp hK rel z1 z2 h k => by
  refine ⟨rz_nonV z2 rel h.1, k (.fz _) _ F H rel (Same.refl _) ?_ h.2⟩
  rw [rz_non z1 rel]
  exact Rep.bl _
theorem opD_notN : OpD X f (fun x y H Q => y = .non ∧ Q (.bl (!decide (x = .non))) H) (dIs not) := fun env μ σ F H r1 r2 v1 v2 Q Qp hK rel z1 z2 h k => by
  refine ⟨rz_nonV z2 rel h.1, k (.fz _) _ F H rel (Same.refl _) ?_ h.2⟩
  rw [rz_non z1 rel]
  exact Rep.bl _
theorem pxt_isN (hK : X.K = f.c.K) (ha : PX X f W a wa) (hb : PX X f W b wb) : PXT X f W (.Compare a [.Is] [b] pos) (wVal (wBin (dIs id) wa wb)) := pxt_cmp op_isN opD_isN hK ha hb (nomark _)
theorem pxt_notN (hK : X.K = f.c.K) (ha : PX X f W a wa) (hb : PX X f W b wb) : PXT X f W (.Compare a [.IsNot] [b] pos) (wVal (wBin (dIs not) wa wb)) := pxt_cmp op_notN opD_notN hK ha hb (nomark _)
end
theorem blsOf_map {α : Type} (g : α → Bool) : ∀ l : List α, blsOf (l.map fun a => .bl (g a)) = some (l.map g)
  | [] => rfl
  | a :: l => by
    show (blsOf (l.map fun a => D.bl (g a))).map (g a :: ·) = _
    rw [blsOf_map g l]
    rfl
/-! ### numbers written in a base -/
def nums (l : List Int) (m : Int) : Int := l.foldl (fun a s => a * m + s) 0
def digs : Nat → Int → Int → List Int
  | 0, _, _ => []
  | k + 1, n, m => digs k (n / m) m ++ [n % m]
theorem digs_len : ∀ (k : Nat) (n m : Int), (digs k n m).length = k
  | 0, _, _ => rfl
  | k + 1, n, m => by
    show (digs k (n / m) m ++ [n % m]).length = k + 1
    rw [List.length_append, digs_len k]
    rfl
theorem nums_snoc (l : List Int) (x m : Int) : nums (l ++ [x]) m = nums l m * m + x := by
  unfold nums
  rw [List.foldl_append]
  rfl
theorem pow_pos' {m : Int} (hm : 0 < m) : ∀ k : Nat, 0 < m ^ k
  | 0 => by rw [Int.pow_zero]; omega
  | k + 1 => by
    rw [Int.pow_succ]
    exact Int.mul_pos (pow_pos' hm k) hm
theorem nums_digs {m : Int} (hm : 0 < m) : ∀ (k : Nat) (n : Int), 0 ≤ n → n < m ^ k → nums (digs k n m) m = n
  | 0, n, h0, h1 => by
    rw [Int.pow_zero] at h1
    have : n = 0 := by omega
    subst this
    rfl
  | k + 1, n, h0, h1 => by
    show nums (digs k (n / m) m ++ [n % m]) m = n
    rw [nums_snoc, nums_digs hm k (n / m) (Int.ediv_nonneg h0 (by omega)) (Int.ediv_lt_of_lt_mul hm (by rw [Int.pow_succ] at h1; exact h1))]
    have := Int.mul_ediv_add_emod n m
    rw [Int.mul_comm] at this
    exact this
theorem digs_nums {m : Int} (hm : 0 < m) (l : List Int) (h : ∀ x ∈ l, 0 ≤ x ∧ x < m) : digs l.length (nums l m) m = l ∧ 0 ≤ nums l m ∧ nums l m < m ^ l.length := by
  have key : ∀ r : List Int, (∀ x ∈ r, 0 ≤ x ∧ x < m) → digs r.length (nums r.reverse m) m = r.reverse ∧ 0 ≤ nums r.reverse m ∧ nums r.reverse m < m ^ r.length := by
    intro r
    induction r with
    | nil => intro _; exact ⟨rfl, Int.le_refl 0, by show (0 : Int) < m ^ 0; rw [Int.pow_zero]; omega⟩
    | cons x r ih =>
      intro hr
      obtain ⟨i1, i2, i3⟩ := ih fun y hy => hr y (List.mem_cons_of_mem _ hy)
      obtain ⟨x0, x1⟩ := hr x (List.mem_cons_self ..)
      rw [List.reverse_cons, nums_snoc]
      have e1 : (nums r.reverse m * m + x) / m = nums r.reverse m := by
        rw [Int.add_comm, Int.add_mul_ediv_right _ _ (by omega), Int.ediv_eq_zero_of_lt x0 x1]
        omega
      have e2 : (nums r.reverse m * m + x) % m = x := by
        rw [Int.add_comm, Int.add_mul_emod_self_right]
        exact Int.emod_eq_of_lt x0 x1
      refine ⟨?_, ?_, ?_⟩
      · show digs r.length ((nums r.reverse m * m + x) / m) m ++ [(nums r.reverse m * m + x) % m] = _
        rw [e1, e2, i1]
      · have := Int.mul_nonneg i2 (show 0 ≤ m by omega)
        omega
      · show _ < m ^ (r.length + 1)
        rw [Int.pow_succ]
        have : (nums r.reverse m + 1) * m ≤ m ^ r.length * m := Int.mul_le_mul_of_nonneg_right (by omega) (by omega)
        rw [Int.add_mul] at this
        omega
  have := key l.reverse fun x hx => h x (List.mem_reverse.mp hx)
  rw [List.reverse_reverse, List.length_reverse] at this
  exact this
end PD
set_option Elab.async false
set_option linter.all false
set_option maxRecDepth 100000
set_option maxHeartbeats 4000000
/-! PD18: what the program's own small defs and the laws' helpers promise, plainly. -/
namespace PD
open PySem PySem.Spec L2
/-- a promise that is not opened by itself -/
@[irreducible] def hd (sp : SpD) : SpD := sp
theorem go {sp : SpD} {ds : List D} {μ : Mu} {Q : R → Mu → Prop} {E : Exc → Mu → Prop} (h : sp ds μ Q E) : hd sp ds μ Q E := by
  unfold hd
  exact h
theorem hd_of {sp : SpD} {ds : List D} {μ : Mu} {Q : R → Mu → Prop} {E : Exc → Mu → Prop} (h : hd sp ds μ Q E) : sp ds μ Q E := by
  unfold hd at h
  exact h
theorem box_ok {μ : Mu} {a : Addr} {l : List D} {k : Addr → List D → Prop} (h : μ a = some (.box l)) (q : k a l) : boxAt μ (.hnd a) k := by
  unfold boxAt
  show match μ a with
    | some (.box l) => k a l
    | _ => False
  rw [h]
  exact q
theorem at_0 {ns : List Int} {it cr sd nn : Int} : atI (jarL ns it cr sd nn) 0 = some (.lst (ns.map .int)) := rfl
theorem at_1 {ns : List Int} {it cr sd nn : Int} : atI (jarL ns it cr sd nn) 1 = some (.int it) := rfl
theorem at_2 {ns : List Int} {it cr sd nn : Int} : atI (jarL ns it cr sd nn) 2 = some (.int cr) := rfl
theorem at_3 {ns : List Int} {it cr sd nn : Int} : atI (jarL ns it cr sd nn) 3 = some (.int sd) := rfl
theorem at_4 {ns : List Int} {it cr sd nn : Int} : atI (jarL ns it cr sd nn) 4 = some (.int nn) := rfl
theorem rd_ok {μ : Mu} {a : Addr} {l : List D} {i : Int} {d : D} {K : D → Prop} (h : μ a = some (.box l)) (e : atI l i = some d) (q : K d) : boxAt μ (.hnd a) fun _ l => match (R.fz (.int i)).d with
    | .int i => match atI l i with
      | some d => K d
      | none => False
    | _ => False := by
  refine box_ok h ?_
  show match atI l i with
    | some d => K d
    | none => False
  rw [e]
  exact q
theorem wr_ok {μ : Mu} {a : Addr} {l : List D} {k : Int} {j : Nat} {K : Addr → List D → Nat → Prop} (h : μ a = some (.box l)) (e : ixN l.length k = some j) (q : K a l j) : boxAt μ (.hnd a) fun a l => match (R.fz (.int k)).d with
    | .int k => match ixN l.length k with
      | some j => K a l j
      | none => False
    | _ => False := by
  refine box_ok h ?_
  show match ixN l.length k with
    | some j => K a l j
    | none => False
  rw [e]
  exact q
theorem atI_nat {l : List D} {i : Nat} {d : D} (h : l[i]? = some d) : atI l (i : Int) = some d := by
  have hi := (List.getElem?_eq_some_iff.mp h).1
  unfold atI
  have : ixN l.length (i : Int) = some i := by
    unfold ixN
    simp
    omega
  rw [this]
  exact h
def sp__law_draw : SpD := fun ds μ Q _ => ∃ (a : Addr) (top : Int), ds = [.hnd a, .int top] ∧ μ a = some .jar ∧ (0 < top ∧ top.natAbs.log2 < 9000) ∧ ∀ k : Int, 0 ≤ k ∧ k < top → Q (.fz (.int k)) μ
abbrev wJ (i : Int) : WE := wAtH (wVar 0) (wC (.int i))
abbrev wDraw2 : WS := wSeq (wIfS (wVal (wBin dGe (wJ 2) (wVar 1))) (wSeq (wAsg 3 (wBin dMod (wJ 2) (wVar 1))) (wSeq (wSetH (wVar 0) (wC (.int 2)) (wBin dDiv (wJ 2) (wVar 1))) (wRet (wVar 3)))) wNext)
  (wSeq (wSetH (wVar 0) (wC (.int 4)) (wBin dAdd (wJ 4) (wC (.int 1)))) (wSeq (wSetH (wVar 0) (wC (.int 3)) (wBin dMod (wBin dAdd (wBin dAdd (wBin dAdd (wBin dPow (wJ 3) (wC (.int 3))) (wBin dMul (wC (.int 40503)) (wJ 4))) (wBin dDiv (wJ 3) (wC (.int 65537)))) (wC (.int 11))) (wC (.int 2147483629))))
    (wRet (wBin dMod (wBin dDiv (wJ 3) (wC (.int 13))) (wVar 1)))))
theorem cdivW_lit {n : Int} {m : Nat} (h : 0 < m) (h2 : m < 2 ^ 64) : CDivW n m := ⟨by omega, by
  have := (Nat.log2_lt (n := m) (k := 64) (by omega)).mpr h2
  show (m : Int).natAbs.log2 < 9000
  rw [Int.natAbs_natCast]
  omega⟩
theorem draw2 {Q : R → Mu → Prop} {E : Exc → Mu → Prop} {a : Addr} {top : Int} {μ : Mu} (ht : 0 < top ∧ top.natAbs.log2 < 9000) (h : ∀ k : Int, 0 ≤ k ∧ k < top → Q (.fz (.int k)) μ) (hj : μ a = some .jar) (ns : List Int) (it cr sd nn : Int) (hok : JarOk ns it cr sd nn) (x y : Option SV)  :
    wDraw2 (shutR a (endsOf Q E)) [some (.val (.hnd a)), some (.val (.int top)), x, y] (muSet μ a (.box (jarL ns it cr sd nn))) := by
  obtain ⟨k1, k2, k3, k4, k5, k6⟩ := hok
  have same : ∀ l : List D, muSet μ a (.box l) a = some (.box l) := fun l => muSet_same
  have fin : ∀ (ns : List Int) (it cr sd nn k : Int) (ν : Mu), ν = muSet μ a (.box (jarL ns it cr sd nn)) → JarOk ns it cr sd nn → 0 ≤ k ∧ k < top → (shutR a (endsOf Q E)).rt (.fz (.int k)) ν := fun ns it cr sd nn k ν e hok hk => by
    subst e
    refine ⟨⟨ns, it, cr, sd, nn, hok, same _⟩, ?_⟩
    rw [muSet_back hj]
    exact h k hk
  refine rd_ok (same _) at_2 ?_
  refine (show True ∧ (if decide (top ≤ cr) = true then _ else _) from ⟨trivial, ?_⟩)
  split
  · refine rd_ok (same _) at_2 (show 0 < top ∧ _ from ⟨ht.1, ?_⟩)
    refine rd_ok (same _) at_2 (show CDivW cr top ∧ _ from ⟨ht, ?_⟩)
    refine wr_ok (same _) (show ixN 5 2 = some 2 from rfl) ?_
    exact fin ns it (cr / top) sd nn (cr % top) _ muSet_set ⟨k1, k2, Int.ediv_nonneg k3 (by omega), k4, k5, k6⟩ ⟨Int.emod_nonneg _ (by omega), Int.emod_lt_of_pos _ ht.1⟩
  · refine rd_ok (same _) at_4 ?_
    refine wr_ok (same _) (show ixN 5 4 = some 4 from rfl) ?_
    have e1 : muSet (muSet μ a (.box (jarL ns it cr sd nn))) a (.box (jarL ns it cr sd (nn + 1))) = muSet μ a (.box (jarL ns it cr sd (nn + 1))) := muSet_set
    show wSeq (wSetH (wVar 0) (wC (.int 3)) (wBin dMod (wBin dAdd (wBin dAdd (wBin dAdd (wBin dPow (wJ 3) (wC (.int 3))) (wBin dMul (wC (.int 40503)) (wJ 4))) (wBin dDiv (wJ 3) (wC (.int 65537)))) (wC (.int 11))) (wC (.int 2147483629))))
      (wRet (wBin dMod (wBin dDiv (wJ 3) (wC (.int 13))) (wVar 1))) (shutR a (endsOf Q E)) [some (.val (.hnd a)), some (.val (.int top)), x, y] (muSet (muSet μ a (.box (jarL ns it cr sd nn))) a (.box (jarL ns it cr sd (nn + 1))))
    rw [e1]
    refine rd_ok (same _) at_3 (show CPow sd 3 ∧ _ from ⟨⟨by decide, by decide, by omega⟩, ?_⟩)
    refine rd_ok (same _) at_4 (show (CMul 40503 (nn + 1) ∨ CMulW 40503 (nn + 1)) ∧ _ from ⟨.inl (.inl ⟨by decide, by decide⟩), ?_⟩)
    refine rd_ok (same _) at_3 (show CDivW sd 65537 ∧ (0 : Int) < 2147483629 ∧ _ from ⟨cdivW_lit (m := 65537) (by decide) (by decide), by decide, ?_⟩)
    refine wr_ok (same _) (show ixN 5 3 = some 3 from rfl) ?_
    obtain ⟨sd2, hs⟩ : ∃ z : Int, z = (sd ^ (3 : Int).toNat + 40503 * (nn + 1) + sd / 65537 + 11) % 2147483629 := ⟨_, rfl⟩
    have e2 : muSet (muSet μ a (.box (jarL ns it cr sd (nn + 1)))) a (.box (jarL ns it cr sd2 (nn + 1))) = muSet μ a (.box (jarL ns it cr sd2 (nn + 1))) := muSet_set
    have hsd : 0 ≤ sd2 ∧ sd2 < 2147483629 := by
      rw [hs]
      exact ⟨Int.emod_nonneg _ (by decide), Int.emod_lt_of_pos _ (by decide)⟩
    show wRet (wBin dMod (wBin dDiv (wJ 3) (wC (.int 13))) (wVar 1)) (shutR a (endsOf Q E)) [some (.val (.hnd a)), some (.val (.int top)), x, y] (muSet (muSet μ a (.box (jarL ns it cr sd (nn + 1)))) a (.box (jarL ns it cr ((sd ^ (3 : Int).toNat + 40503 * (nn + 1) + sd / 65537 + 11) % 2147483629) (nn + 1))))
    rw [← hs, e2]
    refine rd_ok (same _) at_3 (show CDivW sd2 13 ∧ 0 < top ∧ _ from ⟨cdivW_lit (m := 13) (by decide) (by decide), ht.1, ?_⟩)
    exact fin ns it cr sd2 (nn + 1) _ _ rfl ⟨k1, k2, k3, hsd.1, hsd.2, by omega⟩ ⟨Int.emod_nonneg _ (by omega), Int.emod_lt_of_pos _ ht.1⟩
/-! ### the program's own -/
def isW : D → Bool
  | .int _ => true
  | _ => false
def D.kind : D → Bool
  | .hnd _ => false
  | .ins _ _ _ => false
  | .exc _ _ _ _ _ => false
  | .scr _ => false
  | .dct _ _ => false
  | _ => true
def sp_is_whole : SpD := fun ds μ Q _ => ∃ x, ds = [x] ∧ x.kind = true ∧ Q (.fz (.bl (isW x))) μ
def within (x : D) (lo hi : Int) : Bool := match x with
  | .int i => decide (lo ≤ i) && decide (i ≤ hi)
  | _ => false
def sp_is_within : SpD := fun ds μ Q _ => ∃ x lo hi, ds = [x, .int lo, .int hi] ∧ x.kind = true ∧ Q (.fz (.bl (within x lo hi))) μ
def exOf (n : Str) : Exc := ⟨n, [("called", .str n)]⟩
def manyOk (x : D) : Bool := within x 2 4
def sp_need_many : SpD := fun ds μ Q E => ∃ x, ds = [x] ∧ x.kind = true ∧ (manyOk x = true → Q (.fz .non) μ) ∧ (manyOk x = false → E (exOf "BadSigns") μ)
def sp_power : SpD := fun ds μ Q _ => ∃ b t : Int, ds = [.int b, .int t] ∧ (-(2 ^ 64) < b ∧ b < 2 ^ 64) ∧ (0 ≤ t ∧ t < 2 ^ 62) ∧ Q (.fz (.int (b ^ t.toNat))) μ
def signsOk (x : D) (m : Int) : Bool := match x with
  | .tup l => l.all fun s => within s 0 (m - 1)
  | _ => false
/-- a thing of a kind whose items are so, too -/
def Plain1 (x : D) : Prop := x.kind = true ∧ ∀ l, x = .tup l → l.length ≤ sizeLine ∧ ∀ s ∈ l, s.kind = true
def sp_signs_right : SpD := fun ds μ Q _ => ∃ (x : D) (m : Int), ds = [x, .int m] ∧ Plain1 x ∧ Q (.fz (.bl (signsOk x m))) μ
def sp_is_word : SpD := fun ds μ Q E => ∃ (x : D) (m : Int), ds = [x, .int m] ∧ Plain1 x ∧ (manyOk (.int m) = false → E (exOf "BadSigns") μ) ∧ (manyOk (.int m) = true → Q (.fz (.bl (signsOk x m))) μ)
def sp_need_word : SpD := fun ds μ Q E => ∃ (x : D) (m : Int), ds = [x, .int m] ∧ Plain1 x ∧ (signsOk x m = false → E (exOf "BadWord") μ) ∧ (signsOk x m = true → Q (.fz .non) μ)
theorem signsOk_ints {x : D} {m : Int} (h : signsOk x m = true) : ∃ ks : List Int, x = .tup (ks.map .int) ∧ ∀ k ∈ ks, 0 ≤ k ∧ k < m := by
  cases x <;> first | cases h; done | skip
  rename_i l
  have h : (l.all fun s => within s 0 (m - 1)) = true := h
  have key : ∀ l : List D, (l.all fun s => within s 0 (m - 1)) = true → ∃ ks : List Int, l = ks.map .int ∧ ∀ k ∈ ks, 0 ≤ k ∧ k < m := by
    intro l
    induction l with
    | nil => intro _; exact ⟨[], rfl, fun _ h => nomatch h⟩
    | cons d l ih =>
      intro h
      rw [List.all_cons, Bool.and_eq_true] at h
      obtain ⟨ks, e, hk⟩ := ih h.2
      cases d <;> first | cases h.1; done | skip
      rename_i i
      have h1 : (decide (0 ≤ i) && decide (i ≤ m - 1)) = true := h.1
      rw [Bool.and_eq_true, decide_eq_true_eq, decide_eq_true_eq] at h1
      refine ⟨i :: ks, by rw [e]; rfl, fun k hk' => ?_⟩
      rcases List.mem_cons.mp hk' with rfl | hk'
      · omega
      · exact hk k hk'
  obtain ⟨ks, e, hk⟩ := key l h
  exact ⟨ks, by rw [e], hk⟩
theorem signsOk_of {ks : List Int} {m : Int} (h : ∀ k ∈ ks, 0 ≤ k ∧ k < m) : signsOk (.tup (ks.map .int)) m = true := by
  show ((ks.map D.int).all fun s => within s 0 (m - 1)) = true
  rw [List.all_map, List.all_eq_true]
  intro k hk
  obtain ⟨h1, h2⟩ := h k hk
  show (decide (0 ≤ k) && decide (k ≤ m - 1)) = true
  rw [Bool.and_eq_true, decide_eq_true_eq, decide_eq_true_eq]
  omega
def sp_number_in : SpD := fun ds μ Q _ => ∃ (x : D) (l : List Int) (m : Int), ds = [x, .int m] ∧ x.items = some (l.map .int) ∧ (-(2 ^ 64) < m ∧ m < 2 ^ 64) ∧ Q (.fz (.int (nums l m))) μ
theorem manyOk_int {m : Int} (h : manyOk (.int m) = true) : 2 ≤ m ∧ m ≤ 4 := by
  have h : (decide (2 ≤ m) && decide (m ≤ 4)) = true := h
  rw [Bool.and_eq_true, decide_eq_true_eq, decide_eq_true_eq] at h
  exact h
def sp_number_of : SpD := fun ds μ Q E => ∃ (x : D) (m : Int), ds = [x, .int m] ∧ Plain1 x ∧ (manyOk (.int m) = false → E (exOf "BadSigns") μ) ∧ (manyOk (.int m) = true → signsOk x m = false → E (exOf "BadWord") μ) ∧
  (manyOk (.int m) = true → ∀ ks : List Int, x = .tup (ks.map .int) → (∀ k ∈ ks, 0 ≤ k ∧ k < m) → Q (.fz (.int (nums ks m))) μ)
def sp_signs_of : SpD := fun ds μ Q _ => ∃ n len m : Int, ds = [.int n, .int len, .int m] ∧ (0 < m ∧ m < 2 ^ 64) ∧ (0 ≤ len ∧ len ≤ 100000) ∧ Q (.fz (.tup ((digs len.toNat n m).map .int))) μ
theorem cdivW_small {n m : Int} (h : 0 < m ∧ m < 2 ^ 64) : CDivW n m := ⟨h.1, by
  have : m.natAbs < 2 ^ 64 := by omega
  have := (Nat.log2_lt (n := m.natAbs) (k := 64) (by omega)).mpr this
  omega⟩
def sp_word_of : SpD := fun ds μ Q E => ∃ n len m : Int, ds = [.int n, .int len, .int m] ∧ (manyOk (.int m) = false → E (exOf "BadSigns") μ) ∧ (manyOk (.int m) = true → ¬ ((0 ≤ len ∧ len ≤ 40) ∧ 0 ≤ n ∧ n < m ^ len.toNat) → E (exOf "BadNumber") μ) ∧
  (manyOk (.int m) = true → (0 ≤ len ∧ len ≤ 40) → (0 ≤ n ∧ n < m ^ len.toNat) → Q (.fz (.tup ((digs len.toNat n m).map .int))) μ)
/-! ### the law's own helpers -/
theorem cutD_ints (ns : List Int) (lo hi : Option Int) : ∃ ks : List Int, cutD (ns.map .int) lo hi = ks.map .int ∧ ks.length ≤ ns.length := by
  refine ⟨(ns.drop (HT.sIx ns.length 0 lo)).take (HT.sIx ns.length ns.length hi - HT.sIx ns.length 0 lo), ?_, ?_⟩
  · unfold cutD
    rw [List.length_map, List.map_take, List.map_drop]
  · rw [List.length_take, List.length_drop]
    omega
def sp__law_jar : SpD := fun ds μ Q _ => ∃ ns : List Int, ds = [.scr ns] ∧ ns.length ≤ 63 ∧ ∀ (ks : List Int) (sd : Int), JarOk ks 0 0 sd 0 → Q (.fresh (.lst (jarL ks 0 0 sd 0))) μ
theorem log_small {m : Int} (h : 0 < m ∧ m < 2 ^ 64) : m.natAbs.log2 < 9000 := by
  have : m.natAbs < 2 ^ 64 := by omega
  have := (Nat.log2_lt (n := m.natAbs) (k := 64) (by omega)).mpr this
  omega
def sp__law_power : SpD := fun ds μ Q _ => ∃ b t : Int, ds = [.int b, .int t] ∧ (-(2 ^ 64) < b ∧ b < 2 ^ 64) ∧ (0 ≤ t ∧ t < 2 ^ 62) ∧ Q (.fz (.int (b ^ t.toNat))) μ
def sp__law_num : SpD := fun ds μ Q _ => ∃ (x : D) (l : List Int) (m : Int), ds = [x, .int m] ∧ x.items = some (l.map .int) ∧ (-(2 ^ 64) < m ∧ m < 2 ^ 64) ∧ Q (.fz (.int (nums l m))) μ
/-- drawn signs -/
def Signs (m : Int) (ks : List Int) : Prop := ∀ k ∈ ks, 0 ≤ k ∧ k < m
def sp__law_some : SpD := fun ds μ Q _ => ∃ (a : Addr) (m n : Int), ds = [.hnd a, .int m, .int n] ∧ μ a = some .jar ∧ (0 < m ∧ m < 2 ^ 64) ∧ (0 ≤ n ∧ n ≤ 100000) ∧ ∀ ks : List Int, ks.length = n.toNat → Signs m ks → Q (.fz (.tup (ks.map .int))) μ
def sp__law_word : SpD := fun ds μ Q _ => ∃ (a : Addr) (m n : Int), ds = [.hnd a, .int m, .int n] ∧ μ a = some .jar ∧ (0 < m ∧ m < 2 ^ 64) ∧ (0 ≤ n ∧ n ≤ 100000) ∧ ∀ ks : List Int, ks.length ≤ n.toNat → Signs m ks → Q (.fz (.tup (ks.map .int))) μ
def sp__law_far : SpD := fun ds μ Q _ => ∃ (a : Addr), ds = [.hnd a] ∧ μ a = some .jar ∧ ∀ k : Int, (10 ^ 12 ≤ k ∧ k < 2 * 10 ^ 12) ∨ (-(2 * 10 ^ 12) < k ∧ k ≤ -(10 ^ 12)) → Q (.fz (.int k)) μ
def wilds : List D := [.non, .bl true, .bl false, .int 0, .int 1, .int 7, .int (-1), .str "", .str "01", .lst [], .lst [.int 0, .int 1], .tup [.bl true], .tup [.int 0, .int (-1)], .tup [.int 0, .int 4], .tup [.str "0"], .tup [.tup [.int 0]], .tup [.int 0, .non]]
def sp__law_wild : SpD := fun ds μ Q _ => ∃ (a : Addr), ds = [.hnd a] ∧ μ a = some .jar ∧ ∀ d ∈ wilds, Q (.fz d) μ
/-! ### things that may be compared by the law -/
mutual
def D.sm : D → Bool
  | .non => true
  | .bl _ => true
  | .int _ => true
  | .str _ => true
  | .tup l => decide (l.length ≤ 100000) && sms l
  | .lst l => decide (l.length ≤ 100000) && sms l
  | _ => false
def sms : List D → Bool
  | [] => true
  | d :: l => d.sm && sms l
end
theorem sms_mem : ∀ {l : List D} {d : D}, sms l = true → d ∈ l → d.sm = true
  | x :: l, d, h, hd => by
    have h : (x.sm && sms l) = true := h
    rw [Bool.and_eq_true] at h
    rcases List.mem_cons.mp hd with rfl | hd
    · exact h.1
    · exact sms_mem h.2 hd
theorem deps_mem : ∀ {l : List D} {d : D}, d ∈ l → d.dep ≤ deps l
  | x :: l, d, hd => by
    show d.dep ≤ max x.dep (deps l)
    rcases List.mem_cons.mp hd with rfl | hd
    · exact Nat.le_max_left _ _
    · exact Nat.le_trans (deps_mem hd) (Nat.le_max_right _ _)
noncomputable def sameAt (l m : List D) (d : D) : Bool := match d with
  | .int i => @decide (l[i.toNat]? = m[i.toNat]?) (Classical.propDecidable _)
  | _ => true
theorem sameAt_all {l m : List D} (h : l.length = m.length) : (((List.range m.length).map fun i => D.int ((i : Nat) : Int)).map (sameAt l m)).all id = true ↔ l = m := by
  rw [List.all_map, List.all_map, List.all_eq_true]
  constructor
  · intro h2
    apply List.ext_getElem?
    intro i
    by_cases hi : i < m.length
    · have := h2 i (List.mem_range.mpr hi)
      exact (@decide_eq_true_iff _ (Classical.propDecidable _)).mp this
    · rw [List.getElem?_eq_none_iff.mpr (by omega), List.getElem?_eq_none_iff.mpr (by omega)]
  · rintro rfl i _
    exact (@decide_eq_true_iff _ (Classical.propDecidable _)).mpr rfl
theorem blsOf_map2 (g : D → Bool) : ∀ l : List D, blsOf (l.map fun a => .bl (g a)) = some (l.map g) := blsOf_map g
def sp_same (n : Nat) : SpD := fun ds μ Q _ => ∃ x y : D, ds = [x, y] ∧ x.sm = true ∧ y.sm = true ∧ y.dep < n ∧ ∀ b : Bool, (b = true ↔ x = y) → Q (.fz (.bl b)) μ
theorem atI_at {l : List D} {i : Nat} {d : D} (h : l[i]? = some d) (hl : l.length ≤ 100000) : atI l (i : Int) = some d := by
  have hi := (List.getElem?_eq_some_iff.mp h).1
  unfold atI
  have : ixN l.length (i : Int) = some i := by
    unfold ixN
    simp
    omega
  rw [this]
  exact h
def sp__law_plain_word : SpD := fun ds μ Q _ => ∃ (x : D) (m : Int), ds = [x, .int m] ∧ Plain1 x ∧ Q (.fz (.bl (signsOk x m))) μ
theorem sms_ints : ∀ ks : List Int, sms (ks.map .int) = true
  | [] => rfl
  | _ :: ks => sms_ints ks
theorem deps_ints : ∀ ks : List Int, deps (ks.map .int) = 0
  | [] => rfl
  | _ :: ks => by
    show max 0 (deps (ks.map .int)) = 0
    rw [deps_ints ks]
    rfl
theorem sm_word {ks : List Int} (h : ks.length ≤ 100000) : (D.tup (ks.map .int)).sm = true := by
  show (decide ((ks.map D.int).length ≤ 100000) && sms (ks.map .int)) = true
  rw [sms_ints, Bool.and_true, decide_eq_true_eq, List.length_map]
  exact h
theorem dep_word {ks : List Int} : (D.tup (ks.map .int)).dep = 1 := by
  show deps (ks.map .int) + 1 = 1
  rw [deps_ints]
theorem plain_word {ks : List Int} (h : ks.length ≤ 100000) : Plain1 (.tup (ks.map .int)) := ⟨rfl, fun l e => by
  cases e
  refine ⟨?_, fun s hs => ?_⟩
  · rw [List.length_map]
    have : (100000 : Nat) < sizeLine := by decide
    omega
  · obtain ⟨i, _, rfl⟩ := List.mem_map.mp hs
    rfl⟩
theorem ints_inj : ∀ {ks js : List Int}, ks.map D.int = js.map D.int → ks = js
  | [], [], _ => rfl
  | [], _ :: _, h => by cases h
  | _ :: _, [], h => by cases h
  | a :: ks, b :: js, h => by
    injection h with h1 h2
    rw [D.int.inj h1, ints_inj h2]
theorem manyOk_of {m : Int} (h : 2 ≤ m ∧ m ≤ 4) : manyOk (.int m) = true := by
  show (decide (2 ≤ m) && decide (m ≤ 4)) = true
  rw [Bool.and_eq_true, decide_eq_true_eq, decide_eq_true_eq]
  exact h
/-- number_of, word_of, is_word of good words, plainly -/
theorem go_number {ks : List Int} {m : Int} {μ : Mu} {Q : R → Mu → Prop} {E : Exc → Mu → Prop} (hm : 2 ≤ m ∧ m ≤ 4) (hk : Signs m ks) (hl : ks.length ≤ 100000) (h : Q (.fz (.int (nums ks m))) μ) : sp_number_of [.tup (ks.map .int), .int m] μ Q E :=
  ⟨_, m, rfl, plain_word hl, (fun e => by rw [manyOk_of hm] at e; cases e), (fun _ e => by rw [signsOk_of hk] at e; cases e), fun _ js e hj => by rw [← ints_inj (D.tup.inj e)]; exact h⟩
theorem go_word {ks : List Int} {m : Int} {μ : Mu} {Q : R → Mu → Prop} {E : Exc → Mu → Prop} (hm : 2 ≤ m ∧ m ≤ 4) (hk : Signs m ks) (hl : ks.length ≤ 40) (h : Q (.fz (.tup (ks.map .int))) μ) : sp_word_of [.int (nums ks m), .int ks.length, .int m] μ Q E := by
  obtain ⟨e1, e2, e3⟩ := digs_nums (m := m) (by omega) ks hk
  refine ⟨_, _, m, rfl, (fun e => by rw [manyOk_of hm] at e; cases e), fun _ hn => ?_, fun _ _ _ => ?_⟩
  · refine absurd ⟨⟨by omega, by omega⟩, e2, ?_⟩ hn
    rw [Int.toNat_natCast]
    exact e3
  · rw [Int.toNat_natCast, e1]
    exact h
theorem go_isword {ks : List Int} {m : Int} {μ : Mu} {Q : R → Mu → Prop} {E : Exc → Mu → Prop} (hm : 2 ≤ m ∧ m ≤ 4) (hk : Signs m ks) (hl : ks.length ≤ 100000) (h : Q (.fz (.bl true)) μ) : sp_is_word [.tup (ks.map .int), .int m] μ Q E :=
  ⟨_, m, rfl, plain_word hl, (fun e => by rw [manyOk_of hm] at e; cases e), fun _ => by rw [signsOk_of hk]; exact h⟩
theorem go_same {x y : D} {μ : Mu} {Q : R → Mu → Prop} {E : Exc → Mu → Prop} (hx : x.sm = true) (hy : y.sm = true) (hd : y.dep < 6) (e : x = y) (h : Q (.fz (.bl true)) μ) : sp_same 6 [x, y] μ Q E :=
  ⟨x, y, rfl, hx, hy, hd, fun b hb => by rw [hb.mpr e]; exact h⟩
def sp__law_long_number : SpD := fun ds μ Q _ => ∃ (a : Addr) (m : Int), ds = [.hnd a, .int m] ∧ μ a = some .jar ∧ (2 ≤ m ∧ m ≤ 4) ∧ Q (.fz (.bl true)) μ
theorem three_le {α : Type} {x y z : α} : [x, y, z].length ≤ sizeLine := by
  show 3 ≤ sizeLine
  decide
theorem many_no {m : Int} {P : Prop} (hm : 2 ≤ m ∧ m ≤ 4) (e : manyOk (.int m) = false) : P := by
  rw [manyOk_of hm] at e
  cases e
theorem signs_no {m : Int} {ks : List Int} {P : Prop} (hk : Signs m ks) (e : signsOk (.tup (ks.map .int)) m = false) : P := by
  rw [signsOk_of hk] at e
  cases e
def sp__law_left_out : SpD := fun ds μ Q _ => ∃ ks : List Int, ds = [.tup (ks.map .int), .int (nums ks 2)] ∧ ks.length ≤ 40 ∧ Signs 2 ks ∧ Q (.fz (.bl true)) μ
theorem forL_inv {wg : WG} {wb : WS} {n : En} (I : Ev → Mu → Prop) : ∀ (l : List D) (env : Ev) (μ : Mu), I env μ →
    (∀ d ∈ l, ∀ env μ (K : Ev → Mu → Prop), I env μ → (∀ env' μ', I env' μ' → K env' μ') → wg d env fun env' => wb { n with nx := K, ct := K, bk := n.nx } env' μ) →
    (∀ env μ, I env μ → n.nx env μ) → wForL wg wb n l env μ
  | [], env, μ, h, _, fin => fin env μ h
  | d :: l, env, μ, h, step, fin => step d (List.mem_cons_self ..) env μ _ h fun env' μ' h' => forL_inv I l env' μ' h' (fun d' hd' => step d' (List.mem_cons_of_mem _ hd')) fin
theorem seq_cut {w u : WS} {n : En} {env : Ev} {μ : Mu} (J : Ev → Mu → Prop) (h1 : ∀ K : Ev → Mu → Prop, (∀ env μ, J env μ → K env μ) → w { n with nx := K } env μ) (h2 : ∀ env μ, J env μ → u n env μ) : wSeq w u n env μ := h1 (u n) h2
theorem ite_join {c : Bool} {P R : Prop} (r : R) (h1 : c = true → R → P) : if c = true then P else R := by
  cases c
  · rw [if_neg (by decide)]; exact r
  · rw [if_pos rfl]; exact h1 rfl r
theorem atI_some {l : List D} {i : Int} (h : 0 ≤ i ∧ i < l.length) : ∃ d, atI l i = some d ∧ d ∈ l := by
  obtain ⟨k, rfl⟩ : ∃ k : Nat, i = k := ⟨i.toNat, by omega⟩
  have hk : k < l.length := by omega
  exact ⟨l[k], atI_nat (List.getElem?_eq_getElem hk), List.getElem_mem hk⟩
theorem dIx_lst {l : List D} {i : Int} {Q : R → Prop} (h : 0 ≤ i ∧ i < l.length) (k : ∀ d ∈ l, Q (.fz d)) : dIx (.lst l) (.int i) Q := by
  obtain ⟨d, e, hd⟩ := atI_some h
  show match atI l i with
    | some d => Q (.fz d)
    | none => False
  rw [e]
  exact k d hd
theorem two_lt {α : Type} {x y : α} : [x, y].length < sizeLine := by
  show 2 < sizeLine
  decide
theorem five_le {α : Type} {x y z u v : α} : [x, y, z, u, v].length ≤ sizeLine := by
  show 5 ≤ sizeLine
  decide
theorem go_word' {ks : List Int} {m n : Int} {μ : Mu} {Q : R → Mu → Prop} {E : Exc → Mu → Prop} (hm : 2 ≤ m ∧ m ≤ 4) (hk : Signs m ks) (hl : ks.length ≤ 40) (hn : n = ks.length) (h : Q (.fz (.tup (ks.map .int))) μ) : sp_word_of [.int (nums ks m), .int n, .int m] μ Q E := by
  subst hn
  exact go_word hm hk hl h
theorem wilds_plain : ∀ d ∈ wilds, Plain1 d ∧ d.sm = true ∧ d.dep < 6 := by
  intro d hd
  simp only [wilds, List.mem_cons, List.not_mem_nil, or_false] at hd
  have z : ∀ n : Nat, n ≤ 100 → n ≤ sizeLine := fun n h => Nat.le_trans h (by decide)
  rcases hd with rfl | rfl | rfl | rfl | rfl | rfl | rfl | rfl | rfl | rfl | rfl | rfl | rfl | rfl | rfl | rfl | rfl <;>
    refine ⟨⟨rfl, fun l e => ?_⟩, by decide, by decide⟩ <;> (first | (cases e; done) | skip) <;> cases e <;> refine ⟨z _ (by decide), fun s hs => ?_⟩ <;>
    simp only [List.mem_cons, List.not_mem_nil, or_false] at hs <;> (first | (rcases hs with rfl | rfl <;> rfl) | (subst hs; rfl))
theorem sm_told {ks : List Int} {n : Int} (h : ks.length ≤ 100000) : (D.lst [.int n, .tup (ks.map .int), .bl true]).sm = true := by
  show (decide (3 ≤ 100000) && (true && ((D.tup (ks.map .int)).sm && (true && true)))) = true
  rw [sm_word h]
  decide
theorem dp_told {ks : List Int} {n : Int} : (D.lst [.int n, .tup (ks.map .int), .bl true]).dep < 6 := by
  show max 0 (max (D.tup (ks.map .int)).dep (max 0 0)) + 1 < 6
  rw [dep_word]
  decide
theorem pow_83 {m : Int} {k : Nat} (hm : 2 ≤ m ∧ m ≤ 4) (hk : k ≤ 41) : m ^ k < 2 ^ 83 := by
  obtain ⟨n, rfl⟩ : ∃ n : Nat, m = n := ⟨m.toNat, by omega⟩
  have h1 : n ^ k ≤ 4 ^ 41 := Nat.le_trans (Nat.pow_le_pow_left (by omega) k) (Nat.pow_le_pow_right (by decide) hk)
  rw [← Int.natCast_pow]
  have h3 : (4 : Nat) ^ 41 < 2 ^ 83 := by decide
  omega
theorem log_83 {m : Int} (h : 0 < m ∧ m < 2 ^ 83) : m.natAbs.log2 < 9000 := by
  have : m.natAbs < 2 ^ 83 := by omega
  have := (Nat.log2_lt (n := m.natAbs) (k := 83) (by omega)).mpr this
  omega
theorem eqok_bn : eqok (.tup [.str "refused", .str "BadNumber"]) := ⟨by decide +kernel, by decide +kernel⟩
theorem eqv_bn : eqv (.tup [.str "refused", .str "BadNumber"]) (.tup [.str "refused", .str "BadNumber"]) = true := by decide +kernel
theorem ne_no {x y : D} {Q : R → Prop} (hx : eqok x) (hy : eqok y) (hv : eqv x y = true) (h : Q (.fz (.bl false))) : eqok x ∧ eqok y ∧ Q (.fz (.bl (not (eqv x y)))) := ⟨hx, hy, by rw [hv]; exact h⟩
theorem nd_no {p : Prop} [Decidable p] (h : p) : ¬ (!decide p) = true := by simp [h]
def badsD : D := .tup [.str "refused", .str "BadSigns"]
theorem eqok_bs : eqok (.lst [badsD, badsD, badsD]) := ⟨by decide +kernel, by decide +kernel⟩
theorem eqv_bs : eqv (.lst [badsD, badsD, badsD]) (.lst [badsD, badsD, badsD]) = true := by decide +kernel
theorem one_le {α : Type} {x : α} : [x].length ≤ sizeLine := by
  show 1 ≤ sizeLine
  decide
theorem one_lt {α : Type} {x : α} : [x].length < sizeLine := by
  show 1 < sizeLine
  decide
theorem eqok_e : eqok (.tup []) := ⟨by decide +kernel, by decide +kernel⟩
theorem eqv_e : eqv (.tup []) (.tup []) = true := by decide +kernel
def sp_law : SpD := fun ds _ Q _ => ∃ ns : List Int, ds = [.scr ns] ∧ ns.length ≤ 63 ∧ ∀ μ, Q (.fz (.bl true)) μ
theorem law_plain : SpLaw 63 sp_law := fun ns Q E hl hz h => ⟨ns, rfl, hl, h⟩
end PD
set_option Elab.async false
set_option linter.all false
set_option maxRecDepth 100000
set_option maxHeartbeats 4000000
/-! PD19: words, weights. -/
namespace PD
open PySem PySem.Spec L2
/-- a for over a list, by the turn's number -/
theorem forL_ix {wg : WG} {wb : WS} {n : En} (I : Nat → Ev → Mu → Prop) (l : List D) (env : Ev) (μ : Mu) (h0 : I 0 env μ)
    (step : ∀ i d, l[i]? = some d → ∀ env μ (K : Ev → Mu → Prop), I i env μ → (∀ env' μ', I (i + 1) env' μ' → K env' μ') → wg d env fun env' => wb { n with nx := K, ct := K, bk := n.nx } env' μ)
    (fin : ∀ env μ, I l.length env μ → n.nx env μ) : wForL wg wb n l env μ := by
  have key : ∀ (r : List D) (i : Nat) (env : Ev) (μ : Mu), l.drop i = r → i ≤ l.length → I i env μ → wForL wg wb n r env μ := by
    intro r
    induction r with
    | nil =>
      intro i env μ hr hi h
      have : l.length ≤ i := List.drop_eq_nil_iff.mp hr
      have e : i = l.length := by omega
      subst e
      exact fin env μ h
    | cons d r ih =>
      intro i env μ hr hi h
      have hd : l[i]? = some d := by
        have := congrArg List.head? hr
        rw [List.head?_drop] at this
        exact this
      have hlt : i < l.length := (List.getElem?_eq_some_iff.mp hd).1
      refine step i d hd env μ _ h fun env' μ' h' => ih (i + 1) env' μ' ?_ hlt h'
      rw [← List.tail_drop, hr]
      rfl
  exact key l 0 env μ rfl (Nat.zero_le _) h0
theorem rng_at {n i : Nat} {d : D} (h : ((List.range n).map fun i => D.int ((i : Nat) : Int))[i]? = some d) : i < n ∧ d = .int i := by
  rw [List.getElem?_map] at h
  by_cases hi : i < n
  · rw [List.getElem?_range hi] at h
    exact ⟨hi, (Option.some.inj h).symm⟩
  · rw [List.getElem?_eq_none_iff.mpr (by rw [List.length_range]; omega)] at h
    cases h
/-! ### all words of a length -/
def allW (m : Nat) : Nat → List (List Int)
  | 0 => [[]]
  | k + 1 => (allW m k).flatMap fun w => (List.range m).map fun s => w ++ [((s : Nat) : Int)]
def wordD (w : List Int) : D := .tup (w.map .int)
def wordsD (m k : Nat) : List D := (allW m k).map wordD
theorem flat_len {α β : Type} {f : α → List β} {k : Nat} : ∀ l : List α, (∀ a ∈ l, (f a).length = k) → (l.flatMap f).length = l.length * k
  | [], _ => by simp
  | a :: l, h => by
    rw [List.flatMap_cons, List.length_append, h a (List.mem_cons_self ..), flat_len l fun b hb => h b (List.mem_cons_of_mem _ hb), List.length_cons, Nat.add_mul, Nat.one_mul, Nat.add_comm]
theorem allW_len (m : Nat) : ∀ k, (allW m k).length = m ^ k
  | 0 => rfl
  | k + 1 => by
    show ((allW m k).flatMap _).length = _
    rw [flat_len (k := m) _ (fun a _ => by rw [List.length_map, List.length_range]), allW_len m k, Nat.pow_succ]
theorem allW_mem {m : Nat} : ∀ {k : Nat} {w : List Int}, w ∈ allW m k → w.length = k ∧ ∀ s ∈ w, 0 ≤ s ∧ s < m
  | 0, w, h => by
    have : w = [] := by simpa [allW] using h
    subst this
    exact ⟨rfl, fun _ h => nomatch h⟩
  | k + 1, w, h => by
    obtain ⟨v, hv, hw⟩ := List.mem_flatMap.mp (show w ∈ (allW m k).flatMap _ from h)
    obtain ⟨s, hs, rfl⟩ := List.mem_map.mp hw
    obtain ⟨h1, h2⟩ := allW_mem hv
    refine ⟨by rw [List.length_append, h1]; rfl, fun x hx => ?_⟩
    rcases List.mem_append.mp hx with hx | hx
    · exact h2 x hx
    · have : x = s := by simpa using hx
      have := List.mem_range.mp hs
      omega
/-! ### weights of wheels -/
def sumI (f : Nat → Int) : Nat → Int
  | 0 => 0
  | k + 1 => sumI f k + f k
theorem sumI_congr {f g : Nat → Int} : ∀ {n : Nat}, (∀ i < n, f i = g i) → sumI f n = sumI g n
  | 0, _ => rfl
  | n + 1, h => by
    show sumI f n + f n = sumI g n + g n
    rw [sumI_congr fun i hi => h i (by omega), h n (by omega)]
theorem sumI_shift (f : Nat → Int) : ∀ n : Nat, sumI (fun i => f (i + 1)) n = sumI f (n + 1) - f 0
  | 0 => by
    show (0 : Int) = 0 + f 0 - f 0
    omega
  | n + 1 => by
    show sumI (fun i => f (i + 1)) n + f (n + 1) = sumI f (n + 1) + f (n + 1) - f 0
    rw [sumI_shift f n]
    omega
theorem sumI_turn {f : Nat → Int} {n : Nat} (h : ∀ i, f (i + n) = f i) : ∀ b : Nat, sumI (fun i => f (i + b)) n = sumI f n
  | 0 => rfl
  | b + 1 => by
    have e := sumI_shift (fun i => f (i + b)) n
    have e2 : sumI (fun i => f (i + b)) (n + 1) = sumI (fun i => f (i + b)) n + f (n + b) := rfl
    have e3 : sumI (fun i => f (i + (b + 1))) n = sumI (fun i => f (i + 1 + b)) n := sumI_congr fun i _ => by rw [show i + (b + 1) = i + 1 + b by omega]
    rw [e3, e, e2, sumI_turn h b, show n + b = b + n by omega, h b, show 0 + b = b by omega]
    omega
theorem sumI_add (f : Nat → Int) (n : Nat) : ∀ k : Nat, sumI f (n + k) = sumI f n + sumI (fun i => f (n + i)) k
  | 0 => by
    show sumI f n = sumI f n + 0
    omega
  | k + 1 => by
    show sumI f (n + k) + f (n + k) = sumI f n + (sumI (fun i => f (n + i)) k + f (n + k))
    rw [sumI_add f n k]
    omega
def wAt (ks : List Int) (i : Nat) : Int := ks.getD (i % ks.length) 0
def winAt (n : Nat) (ks : List Int) (p : Nat) : List Int := (List.range n).map fun s => wAt ks (p + s)
def wgt (ws : List Int) (n : Nat) (ks : List Int) (m : Int) : Int := sumI (fun p => ws.getD (nums (winAt n ks p) m).toNat 0) ks.length
theorem wAt_turn (ks : List Int) (i : Nat) : wAt ks (i + ks.length) = wAt ks i := by
  unfold wAt
  rw [Nat.add_mod_right]
theorem wAt_mem {ks : List Int} {i : Nat} (h : ks ≠ []) : wAt ks i ∈ ks := by
  unfold wAt
  have : i % ks.length < ks.length := Nat.mod_lt _ (List.length_pos_iff.mpr h)
  rw [List.getD_eq_getElem?_getD, List.getElem?_eq_getElem this]
  exact List.getElem_mem _
theorem winAt_congr {n : Nat} {ks js : List Int} {p q : Nat} (h : ∀ s, wAt ks (p + s) = wAt js (q + s)) : winAt n ks p = winAt n js q := by
  unfold winAt
  exact List.map_congr_left fun s _ => h s
theorem wAt_rot {ks : List Int} {b : Nat} (hb : b ≤ ks.length) (i : Nat) : wAt (ks.drop b ++ ks.take b) i = wAt ks (i + b) := by
  unfold wAt
  have hl : (ks.drop b ++ ks.take b).length = ks.length := by
    rw [List.length_append, List.length_drop, List.length_take]
    omega
  rw [hl]
  by_cases h0 : ks.length = 0
  · have : ks = [] := List.length_eq_zero_iff.mp h0
    subst this
    simp
  have h1 : i % ks.length < ks.length := Nat.mod_lt _ (by omega)
  rw [← Nat.mod_add_mod, List.getD_eq_getElem?_getD, List.getD_eq_getElem?_getD]
  generalize i % ks.length = j at h1 ⊢
  congr 1
  by_cases h2 : j < ks.length - b
  · rw [List.getElem?_append_left (by rw [List.length_drop]; exact h2), List.getElem?_drop, Nat.mod_eq_of_lt (by omega), Nat.add_comm]
  · rw [List.getElem?_append_right (by rw [List.length_drop]; omega), List.length_drop, List.getElem?_take, if_pos (by omega)]
    rw [show (j + b) % ks.length = j + b - ks.length from by rw [Nat.mod_eq_sub_mod (by omega), Nat.mod_eq_of_lt (by omega)]]
    congr 1
    omega
theorem wgt_rot {ws ks : List Int} {n b : Nat} {m : Int} (hb : b ≤ ks.length) : wgt ws n (ks.drop b ++ ks.take b) m = wgt ws n ks m := by
  unfold wgt
  have hl : (ks.drop b ++ ks.take b).length = ks.length := by
    rw [List.length_append, List.length_drop, List.length_take]
    omega
  rw [hl, ← sumI_turn (f := fun p => ws.getD (nums (winAt n ks p) m).toNat 0) (n := ks.length) ?_ b]
  · refine sumI_congr fun p _ => ?_
    have : winAt n (ks.drop b ++ ks.take b) p = winAt n ks (p + b) := winAt_congr fun s => by rw [wAt_rot hb, show p + s + b = p + b + s by omega]
    rw [this]
  · intro p
    have : winAt n ks (p + ks.length) = winAt n ks p := winAt_congr fun s => by rw [show p + ks.length + s = p + s + ks.length by omega, wAt_turn]
    show ws.getD (nums (winAt n ks (p + ks.length)) m).toNat 0 = _
    rw [this]
theorem wAt_two {ks : List Int} (i : Nat) : wAt (ks ++ ks) i = wAt ks i := by
  unfold wAt
  by_cases h0 : ks.length = 0
  · have : ks = [] := List.length_eq_zero_iff.mp h0
    subst this
    rfl
  have h1 : i % (ks.length + ks.length) < ks.length + ks.length := Nat.mod_lt _ (by omega)
  have h2 : i % (ks.length + ks.length) % ks.length = i % ks.length := Nat.mod_mod_of_dvd _ ⟨2, by omega⟩
  rw [List.length_append, List.getD_eq_getElem?_getD, List.getD_eq_getElem?_getD, ← h2]
  generalize i % (ks.length + ks.length) = j at h1 ⊢
  congr 1
  by_cases h3 : j < ks.length
  · rw [List.getElem?_append_left h3, Nat.mod_eq_of_lt h3]
  · rw [List.getElem?_append_right (by omega), Nat.mod_eq_sub_mod (by omega), Nat.mod_eq_of_lt (by omega)]
theorem wgt_two {ws ks : List Int} {n : Nat} {m : Int} : wgt ws n (ks ++ ks) m = 2 * wgt ws n ks m := by
  unfold wgt
  rw [List.length_append, sumI_add]
  have e : ∀ p, winAt n (ks ++ ks) p = winAt n ks p := fun p => winAt_congr fun s => wAt_two _
  have e2 : ∀ p, winAt n (ks ++ ks) (ks.length + p) = winAt n ks p := fun p => by
    rw [e]
    exact winAt_congr fun s => by rw [show ks.length + p + s = p + s + ks.length by omega, wAt_turn]
  simp only [e, e2]
  have e3 : sumI (fun i => ws.getD (nums (winAt n ks (ks.length + i)) m).toNat 0) ks.length = sumI (fun p => ws.getD (nums (winAt n ks p) m).toNat 0) ks.length := sumI_congr fun p _ => by
    have : winAt n ks (ks.length + p) = winAt n ks p := winAt_congr fun s => by rw [show ks.length + p + s = p + s + ks.length by omega, wAt_turn]
    rw [this]
  omega
/-! ### the width of a weighing -/
def wSize (k : Nat) (m : Int) : Option Int := if k = m.toNat ^ 1 then some 1 else if k = m.toNat ^ 2 then some 2 else if k = m.toNat ^ 3 then some 3 else none
def D.seq : D → Option (List D)
  | .tup l => some l
  | .lst l => some l
  | _ => none
def widthOf (x : D) (m : Int) : Option Int := match x.seq with
  | some l => if l.all isW = true then wSize l.length m else none
  | none => none
def Plain2 (x : D) : Prop := x.kind = true ∧ ∀ l, x.seq = some l → l.length ≤ sizeLine ∧ ∀ s ∈ l, s.kind = true
theorem ring_at {ks : List Int} (h : ks ≠ []) (p s : Nat) : atI (ks.map D.int) (((p : Nat) + (s : Nat) : Int) % ((ks.map D.int).length : Int)) = some (.int (wAt ks (p + s))) := by
  have hl : (p + s) % ks.length < ks.length := Nat.mod_lt _ (List.length_pos_iff.mpr h)
  have e : (((p : Nat) + (s : Nat) : Int) % ((ks.map D.int).length : Int)) = (((p + s) % ks.length : Nat) : Int) := by
    rw [List.length_map, Int.natCast_emod, Int.natCast_add]
  rw [e]
  refine atI_nat ?_
  rw [List.getElem?_map, List.getElem?_eq_getElem hl]
  unfold wAt
  rw [List.getD_eq_getElem?_getD, List.getElem?_eq_getElem hl]
  rfl
theorem dIx_seq {x d : D} {l : List D} {i : Int} {Q : R → Prop} (hx : x.seq = some l) (e : atI l i = some d) (h : Q (.fz d)) : dIx x (.int i) Q := by
  cases x <;> cases hx <;> (show match atI l i with
    | some d => Q (.fz d)
    | none => False) <;> rw [e] <;> exact h
end PD
set_option Elab.async false
set_option linter.all false
set_option maxRecDepth 100000
set_option maxHeartbeats 4000000
/-! PD20: == of data. -/
namespace PD
open PySem PySem.Spec L2
mutual
theorem lay_flat : ∀ d : D, d.flat = true → d.py.canLay0 = true
  | .non, _ => by simp only [D.py, PyData.canLay0]
  | .bl _, _ => by simp only [D.py, PyData.canLay0]
  | .int _, _ => by simp only [D.py, PyData.canLay0]
  | .str s, h => by simp only [D.py, PyData.canLay0]; exact h
  | .tup l, h => by simp only [D.py, PyData.canLay0]; exact lays_flat l h
  | .lst l, h => by simp only [D.py, PyData.canLay0]; exact lays_flat l h
  | .dic _ _, h => by cases h
  | .dct _ _, h => by cases h
  | .ins _ _ _, h => by cases h
  | .hnd _, h => by cases h
  | .scr _, h => by cases h
  | .exc _ _ _ _ _, h => by cases h
theorem lays_flat : ∀ l : List D, flats l = true → PyData.canLayAll0 (pys l) = true
  | [], _ => by simp only [pys, PyData.canLayAll0]
  | d :: l, h => by
    have h : (d.flat && flats l) = true := h
    rw [Bool.and_eq_true] at h
    simp only [pys, PyData.canLayAll0, lay_flat d h.1, lays_flat l h.2, Bool.and_self]
end
mutual
theorem dep_py : ∀ d : D, d.flat = true → d.py.depth = d.dep
  | .non, _ => by simp only [D.py, PyData.depth, D.dep]
  | .bl _, _ => by simp only [D.py, PyData.depth, D.dep]
  | .int _, _ => by simp only [D.py, PyData.depth, D.dep]
  | .str s, h => by simp only [D.py, PyData.depth, D.dep]
  | .tup l, h => by simp only [D.py, PyData.depth, D.dep]; rw [deps_py l h]
  | .lst l, h => by simp only [D.py, PyData.depth, D.dep]; rw [deps_py l h]
  | .dic _ _, h => by cases h
  | .dct _ _, h => by cases h
  | .ins _ _ _, h => by cases h
  | .hnd _, h => by cases h
  | .scr _, h => by cases h
  | .exc _ _ _ _ _, h => by cases h
theorem deps_py : ∀ l : List D, flats l = true → PyData.depthAll (pys l) = deps l
  | [], _ => by simp only [pys, PyData.depthAll, deps]
  | d :: l, h => by
    have h : (d.flat && flats l) = true := h
    rw [Bool.and_eq_true] at h
    simp only [pys, PyData.depthAll, deps, dep_py d h.1, deps_py l h.2]
end
theorem eqok_of {d : D} (h : d.flat = true) (hd : d.dep ≤ 64) : eqok d := ⟨h, by
  show (d.py.canLay0 && decide (d.py.depth ≤ 64)) = true
  rw [lay_flat d h, dep_py d h, decide_eq_true hd]
  rfl⟩
mutual
def D.nb : D → Bool
  | .non => true
  | .int _ => true
  | .str s => PySem.PyData.strOk s
  | .tup l => nbs l
  | .lst l => nbs l
  | _ => false
def nbs : List D → Bool
  | [] => true
  | d :: l => d.nb && nbs l
end
mutual
theorem nb_flat : ∀ d : D, d.nb = true → d.flat = true
  | .non, _ => rfl
  | .int _, _ => rfl
  | .str s, h => h
  | .tup l, h => nbs_flats l h
  | .lst l, h => nbs_flats l h
  | .bl _, h => by cases h
  | .dic _ _, h => by cases h
  | .dct _ _, h => by cases h
  | .ins _ _ _, h => by cases h
  | .hnd _, h => by cases h
  | .scr _, h => by cases h
  | .exc _ _ _ _ _, h => by cases h
theorem nbs_flats : ∀ l : List D, nbs l = true → flats l = true
  | [], _ => rfl
  | d :: l, h => by
    have h : (d.nb && nbs l) = true := h
    rw [Bool.and_eq_true] at h
    show (d.flat && flats l) = true
    rw [nb_flat d h.1, nbs_flats l h.2]
    rfl
end
mutual
theorem eqv_iff : ∀ x y : D, x.nb = true → y.nb = true → (eqv x y = true ↔ x = y)
  | .non, y, _, hy => by
    cases y <;> first | (cases hy; done) | skip <;> simp [eqv, D.py, PyData.eqv]
  | .int i, y, _, hy => by
    cases y <;> first | (cases hy; done) | skip <;> simp [eqv, D.py, PyData.eqv]
  | .str s, y, _, hy => by
    cases y <;> first | (cases hy; done) | skip <;> simp [eqv, D.py, PyData.eqv]
  | .tup l, y, hx, hy => by
    cases y <;> first | (cases hy; done) | skip <;> simp only [eqv, D.py, PyData.eqv, reduceCtorEq, Bool.false_eq_true]
    rename_i m
    rw [eqvs_iff l m hx hy, D.tup.injEq]
  | .lst l, y, hx, hy => by
    cases y <;> first | (cases hy; done) | skip <;> simp only [eqv, D.py, PyData.eqv, reduceCtorEq, Bool.false_eq_true]
    rename_i m
    rw [eqvs_iff l m hx hy, D.lst.injEq]
  | .bl _, _, h, _ => by cases h
  | .dic _ _, _, h, _ => by cases h
  | .dct _ _, _, h, _ => by cases h
  | .ins _ _ _, _, h, _ => by cases h
  | .hnd _, _, h, _ => by cases h
  | .scr _, _, h, _ => by cases h
  | .exc _ _ _ _ _, _, h, _ => by cases h
theorem eqvs_iff : ∀ l m : List D, nbs l = true → nbs m = true → (PyData.eqvAll (pys l) (pys m) = true ↔ l = m)
  | [], [], _, _ => by simp [pys, PyData.eqvAll]
  | [], _ :: _, _, _ => by simp [pys, PyData.eqvAll]
  | _ :: _, [], _, _ => by simp [pys, PyData.eqvAll]
  | d :: l, e :: m, hl, hm => by
    have hl : (d.nb && nbs l) = true := hl
    have hm : (e.nb && nbs m) = true := hm
    rw [Bool.and_eq_true] at hl hm
    simp only [pys, PyData.eqvAll, Bool.and_eq_true, List.cons.injEq]
    have h1 := eqv_iff d e hl.1 hm.1
    unfold eqv at h1
    rw [h1, eqvs_iff l m hl.2 hm.2]
end
theorem nbs_ints : ∀ ks : List Int, nbs (ks.map .int) = true
  | [] => rfl
  | _ :: ks => nbs_ints ks
theorem nb_word {ks : List Int} : (D.tup (ks.map .int)).nb = true := nbs_ints ks
theorem nb_list {ks : List Int} : (D.lst (ks.map .int)).nb = true := nbs_ints ks
/-- == of such data, as a test -/
noncomputable def eqD (x y : D) : Bool := @decide (x = y) (Classical.propDecidable _)
theorem eqD_iff {x y : D} : eqD x y = true ↔ x = y := @decide_eq_true_iff _ (Classical.propDecidable _)
theorem eqv_eqD {x y : D} (hx : x.nb = true) (hy : y.nb = true) : eqv x y = eqD x y := Bool.eq_iff_iff.mpr ((eqv_iff x y hx hy).trans eqD_iff.symm)
theorem eqD_no {x y : D} (h : x ≠ y) : eqD x y = false := by
  cases e : eqD x y
  · rfl
  · exact absurd (eqD_iff.mp e) h
theorem eqD_self {x : D} : eqD x x = true := eqD_iff.mpr rfl
theorem eq_seq {g : Bool → Bool} {x y : D} {Q : R → Prop} (hx : x.nb = true) (hy : y.nb = true) (dx : x.dep ≤ 64) (dy : y.dep ≤ 64) (h : Q (.fz (.bl (g (eqD x y))))) : eqok x ∧ eqok y ∧ Q (.fz (.bl (g (eqv x y)))) :=
  ⟨eqok_of (nb_flat x hx) dx, eqok_of (nb_flat y hy) dy, by rw [eqv_eqD hx hy]; exact h⟩
theorem z_le {n : Nat} (h : n ≤ 100000) : n ≤ sizeLine := Nat.le_trans h (by decide)
theorem allW_ints : ∀ l : List D, l.all isW = true → ∃ ws : List Int, l = ws.map .int
  | [], _ => ⟨[], rfl⟩
  | d :: l, h => by
    rw [List.all_cons, Bool.and_eq_true] at h
    obtain ⟨ws, e⟩ := allW_ints l h.2
    cases d <;> first | (cases h.1; done) | skip
    rename_i i
    exact ⟨i :: ws, by rw [e]; rfl⟩
theorem widthOf_some {x : D} {m n : Int} (h : widthOf x m = some n) : ∃ ws : List Int, x.seq = some (ws.map .int) ∧ (1 ≤ n ∧ n ≤ 3) ∧ ws.length = m.toNat ^ n.toNat := by
  unfold widthOf at h
  cases e : x.seq with
  | none => rw [e] at h; cases h
  | some l =>
    rw [e] at h
    have h : (if l.all isW = true then wSize l.length m else none) = some n := h
    split at h
    · rename_i ha
      obtain ⟨ws, rfl⟩ := allW_ints l ha
      refine ⟨ws, rfl, ?_⟩
      unfold wSize at h
      rw [List.length_map] at h
      split at h
      · rename_i c; cases h; exact ⟨by omega, c⟩
      · split at h
        · rename_i c; cases h; exact ⟨by omega, c⟩
        · split at h
          · rename_i c; cases h; exact ⟨by omega, c⟩
          · cases h
    · cases h
theorem widthOf_ints {x : D} {ws : List Int} {m n : Int} (hx : x.seq = some (ws.map .int)) (hm : 2 ≤ m) (hn : 1 ≤ n ∧ n ≤ 3) (h : ws.length = m.toNat ^ n.toNat) : widthOf x m = some n := by
  unfold widthOf
  rw [hx]
  have ha : (ws.map D.int).all isW = true := by
    rw [List.all_map, List.all_eq_true]
    intro k _
    rfl
  show (if (ws.map D.int).all isW = true then wSize (ws.map D.int).length m else none) = some n
  rw [if_pos ha, List.length_map]
  have lt : ∀ {a b : Nat}, a < b → m.toNat ^ a < m.toNat ^ b := fun h => Nat.pow_lt_pow_right (by omega) h
  have l12 := lt (show 1 < 2 by decide)
  have l13 := lt (show 1 < 3 by decide)
  have l23 := lt (show 2 < 3 by decide)
  unfold wSize
  obtain rfl | rfl | rfl : n = 1 ∨ n = 2 ∨ n = 3 := by omega
  · have h : ws.length = m.toNat ^ 1 := h
    rw [if_pos h]
  · have h : ws.length = m.toNat ^ 2 := h
    rw [if_neg (by omega), if_pos h]
  · have h : ws.length = m.toNat ^ 3 := h
    rw [if_neg (by omega), if_neg (by omega), if_pos h]
theorem plain2_ints {x : D} {ws : List Int} (hx : x.seq = some (ws.map .int)) (hl : ws.length ≤ 100000) : Plain2 x := ⟨by cases x <;> cases hx <;> rfl, fun l e => by
  rw [hx] at e
  cases e
  refine ⟨by rw [List.length_map]; exact z_le hl, fun s hs => ?_⟩
  obtain ⟨i, _, rfl⟩ := List.mem_map.mp hs
  rfl⟩
theorem eqok_word {ks : List Int} : eqok (.tup (ks.map .int)) := eqok_of (nb_flat _ nb_word) (by rw [dep_word]; decide)
theorem dep_list {ks : List Int} : (D.lst (ks.map .int)).dep = 1 := by
  show deps (ks.map .int) + 1 = 1
  rw [deps_ints]
theorem eqok_list {ks : List Int} : eqok (.lst (ks.map .int)) := eqok_of (nb_flat _ nb_list) (by rw [dep_list]; decide)
end PD
set_option Elab.async false
set_option linter.all false
set_option maxRecDepth 100000
set_option maxHeartbeats 4000000
/-! PD21: objects: fields read and stored, made, their methods called. -/
namespace PD
open PySem PySem.Spec L2
section
variable {X : Cx} {f : Fm} {W : WX} {e a b cc o : Expr} {es rest : List Expr} {wa wb wc w wo wv : WE} {wr wk : WA} {pos apos : Pos} {env : Ev} {μ μ' : Mu} {σ : L2.St} {F F' H : Hp} {x : Str} {p : Pos} {st : Stmt} {ss : List Stmt} {n : En} {Dn : Ends} {ad : Addr} {m m' : MO} {fl : Str} {cns : List Str}
/-- a field of a class of that name is a plain one -/
structure FldOk (c : Cfg) (fl cn : Str) : Prop where
  to : ∃ C, c.mg cn = some (.ref C) ∧ Cls c.K C ∧ NoAttr c.K C fl
/-- an object's field -/
@[irreducible] def fldAt (cns : List Str) (fl : Str) (μ : Mu) (x : D) (k : D → Prop) : Prop := match x with
  | .ins cn ns vs => cn ∈ cns ∧ match (ns.zip vs).lookup fl with
    | some d => k d
    | none => False
  | .hnd a => match μ a with
    | some (.obj cn _ fs) => cn ∈ cns ∧ match fs.lookup fl with
      | some d => k d
      | none => False
    | _ => False
  | _ => False
theorem fld_ins {cn : Str} {ns : List Str} {vs : List D} {d : D} {k : D → Prop} (h : cn ∈ cns) (l : (ns.zip vs).lookup fl = some d) (q : k d) : fldAt cns fl μ (.ins cn ns vs) k := by
  unfold fldAt
  refine ⟨h, ?_⟩
  rw [l]
  exact q
theorem fld_obj {cn : Str} {dx : Addr} {fs : List (Str × D)} {d : D} {k : D → Prop} (hm : μ ad = some (.obj cn dx fs)) (h : cn ∈ cns) (l : fs.lookup fl = some d) (q : k d) : fldAt cns fl μ (.hnd ad) k := by
  unfold fldAt
  show match μ ad with
    | some (.obj cn _ fs) => cn ∈ cns ∧ match fs.lookup fl with
      | some d => k d
      | none => False
    | _ => False
  rw [hm]
  refine ⟨h, ?_⟩
  rw [l]
  exact q
theorem fldAt_of {y : D} {k : D → Prop} (h : fldAt cns fl μ y k) : (∃ cn ns vs d, y = .ins cn ns vs ∧ cn ∈ cns ∧ (ns.zip vs).lookup fl = some d ∧ k d) ∨ (∃ a cn dx fs d, y = .hnd a ∧ μ a = some (.obj cn dx fs) ∧ cn ∈ cns ∧ fs.lookup fl = some d ∧ k d) := by
  unfold fldAt at h
  split at h
  · rename_i cn ns vs
    obtain ⟨h1, h2⟩ := h
    split at h2
    · rename_i d hd
      exact .inl ⟨cn, ns, vs, d, rfl, h1, hd, h2⟩
    · exact h2.elim
  · rename_i a
    split at h
    · rename_i cn dx fs hm
      obtain ⟨h1, h2⟩ := h
      split at h2
      · rename_i d hd
        exact .inr ⟨a, cn, dx, fs, d, rfl, hm, h1, hd, h2⟩
      · exact h2.elim
    · exact h.elim
  · exact h.elim
def wFld (cns : List Str) (fl : Str) (wa : WE) : WE := fun env μ Q E => wa env μ (fun r μ1 => fldAt cns fl μ1 r.d fun d => Q (.fz d) μ1) E
theorem rz_ins {v : V} {r : R} {cn : Str} {ns : List Str} {vs : List D} (h : RZ f env σ F v r) (e : r.d = .ins cn ns vs) : Rep f.c F v (.ins cn ns vs) := by
  rw [← e]
  exact h.fz fun i k z => by rw [z] at e; cases k <;> cases e
theorem ins_at {v : V} {cn : Str} {ns : List Str} {vs : List D} (h : Rep f.c F v (.ins cn ns vs)) : ∃ (a dx C : Addr) (fs : List (Str × V)), v = .ref a ∧ f.c.mg cn = some (.ref C) ∧ F a = some (.ins C dx fs) ∧ F dx = some (.own a) ∧ ns = fs.map (·.1) ∧ Reps f.c F (fs.map (·.2)) vs := by
  cases h with
  | ins m s o r => exact ⟨_, _, _, _, rfl, m, s, o, rfl, r⟩
theorem map_zip1 {α β : Type} : ∀ {l : List α} {m : List β}, l.length = m.length → (l.zip m).map (·.1) = l
  | [], [], _ => rfl
  | _ :: _, [], h => by cases h
  | [], _ :: _, h => by cases h
  | a :: l, b :: m, h => by
    rw [List.zip_cons_cons, List.map_cons, map_zip1 (Nat.succ.inj h)]
theorem map_zip2 {α β : Type} : ∀ {l : List α} {m : List β}, l.length = m.length → (l.zip m).map (·.2) = m
  | [], [], _ => rfl
  | _ :: _, [], h => by cases h
  | [], _ :: _, h => by cases h
  | a :: l, b :: m, h => by
    rw [List.zip_cons_cons, List.map_cons, map_zip2 (Nat.succ.inj h)]
theorem ins_fld {c : Cfg} {fs : List (Str × V)} {vs : List D} {d : D} (r : Reps c F (fs.map (·.2)) vs) (l : ((fs.map (·.1)).zip vs).lookup fl = some d) : ∃ v, fs.lookup fl = some v ∧ Rep c F v d := by
  have hl : (fs.map (·.1)).length = vs.length := by
    have := r.len
    rw [List.length_map] at this ⊢
    exact this
  exact lookup_reps (map_zip1 hl).symm (by rw [map_zip2 hl]; exact r) l
theorem px_fld (hK : X.K = f.c.K) (hc : ∀ cn ∈ cns, FldOk f.c fl cn) (ha : PX X f W e wa) (hb : attributeBase e fl X.env (eval e X.env) = eval e X.env := by rfl) : PX X f W (.Attribute e fl pos) (wFld cns fl wa) :=
  pe_imp (pe_fld ha hb) fun σ H Q h => by
    obtain ⟨env, μ, F, Qp, Ep, rel, hw, k, kx⟩ := h
    refine ⟨env, μ, F, _, Ep, rel, hw, fun r1 μ1 v1 F1 H1 rel1 e1 rr1 q1 => ?_, kx⟩
    obtain ⟨F2, rel2, e2, rz1⟩ := settle rel1 rr1
    rcases fldAt_of q1 with ⟨cn, ns, vs, d, ey, hc1, hl, q⟩ | ⟨a, cn, dx, fs, d, ey, hm, hc1, hl, q⟩
    · obtain ⟨C0, g1, g2, g3⟩ := (hc cn hc1).to
      obtain ⟨a, dx, C, fs, rfl, h1, h2, h3, rfl, h4⟩ := ins_at (rz_ins rz1 ey)
      rw [g1] at h1
      cases h1
      obtain ⟨v, l1, l2⟩ := ins_fld h4 hl
      exact ⟨a, C0, dx, fs, v, rfl, rel2.fh _ _ h2, by rw [hK]; exact g2, by rw [hK]; exact g3, l1, k (.fz d) μ1 v F2 H1 rel2 (e1.trans e2) l2 q⟩
    · obtain ⟨C0, g1, g2, g3⟩ := (hc cn hc1).to
      obtain ⟨_, _, C, vs, h1, h2, h3, h4⟩ := rel2.mu a _ hm
      rw [g1] at h1
      cases h1
      obtain ⟨v, l1, l2⟩ := lookup_reps h3 h4 hl
      exact ⟨a, C0, dx, vs, v, rz_hnd rz1 ey, h2, by rw [hK]; exact g2, by rw [hK]; exact g3, l1, k (.fz d) μ1 v F2 H1 rel2 (e1.trans e2) l2 q⟩
/-- a field stored -/
def putD (fl : Str) (d : D) : List (Str × D) → List (Str × D)
  | [] => [(fl, d)]
  | (g, x) :: r => if g = fl then (g, d) :: r else (g, x) :: putD fl d r
theorem put_names {v : V} {d : D} : ∀ {vs : List (Str × V)} {fs : List (Str × D)}, vs.map (·.1) = fs.map (·.1) → (putF fl v vs).map (·.1) = (putD fl d fs).map (·.1)
  | [], [], _ => rfl
  | [], _ :: _, h => by cases h
  | _ :: _, [], h => by cases h
  | (g, x) :: vs, (g', y) :: fs, h => by
    simp only [List.map_cons, List.cons.injEq] at h
    obtain ⟨h1, h2⟩ := h
    subst h1
    show ((if g = fl then (g, v) :: vs else (g, x) :: putF fl v vs)).map (·.1) = ((if g = fl then (g, d) :: fs else (g, y) :: putD fl d fs)).map (·.1)
    split
    · rw [List.map_cons, List.map_cons, h2]
    · rw [List.map_cons, List.map_cons, put_names h2]
theorem put_reps {c : Cfg} {v : V} {d : D} (hd : Rep c F v d) : ∀ {vs : List (Str × V)} {fs : List (Str × D)}, vs.map (·.1) = fs.map (·.1) → Reps c F (vs.map (·.2)) (fs.map (·.2)) → Reps c F ((putF fl v vs).map (·.2)) ((putD fl d fs).map (·.2))
  | [], [], _, _ => .one hd
  | [], _ :: _, h, _ => by cases h
  | _ :: _, [], h, _ => by cases h
  | (g, x) :: vs, (g', y) :: fs, h, r => by
    simp only [List.map_cons, List.cons.injEq] at h
    obtain ⟨h1, h2⟩ := h
    subst h1
    have r' : Reps c F (x :: vs.map (·.2)) (y :: fs.map (·.2)) := r
    show Reps c F (((if g = fl then (g, v) :: vs else (g, x) :: putF fl v vs)).map (·.2)) (((if g = fl then (g, d) :: fs else (g, y) :: putD fl d fs)).map (·.2))
    cases r' with
    | cons r1 r2 =>
      split
      · exact .cons hd r2
      · exact .cons r1 (put_reps hd h2 r2)
theorem Rel.writeObj {cn : Str} {dx C : Addr} {fs fs' : List (Str × D)} {vs vs' : List (Str × V)} (q : Rel f env μ σ F H) (h : μ ad = some (.obj cn dx fs)) (hC : f.c.mg cn = some (.ref C)) (ho : H ad = some (.ins C dx vs)) (hn : vs'.map (·.1) = fs'.map (·.1)) (hr : Reps f.c F (vs'.map (·.2)) (fs'.map (·.2))) :
    Rel f env (muSet μ ad (.obj cn dx fs')) σ F (upd H ad (.ins C dx vs')) := by
  obtain ⟨nf, nb, _⟩ := q.mu ad _ h
  exact {
    bh := fun b u hb => by
      rw [upd_ne (fun e => by rw [e, nb] at hb; cases hb)]
      exact q.bh b u hb
    bn := q.bn
    f0 := q.f0
    fh := fun b u h => by
      rw [upd_ne (ne_of_none h nf)]
      exact q.fh b u h
    fb := q.fb
    ft := q.ft
    mu := fun b k hb => by
      by_cases e : b = ad
      · subst e
        rw [muSet_same] at hb
        cases hb
        exact ⟨nf, nb, C, vs', hC, upd_same, hn, hr⟩
      · rw [muSet_ne e] at hb
        obtain ⟨h1, h2, h3⟩ := q.mu b k hb
        exact ⟨h1, h2, h3.stay (Same.refl _) fun u q => by rw [upd_ne e]; exact q⟩
    tb := fun p hp => by
      obtain ⟨ps, h1, h2, h3⟩ := q.tb p hp
      have ne : ∀ {b : Addr} {u : HO}, H b = some u → b = ad → u = .ins C dx vs := fun {b u} h e => by
        rw [e, ho] at h
        exact (Option.some.inj h).symm
      refine ⟨ps, by rw [upd_ne (fun e => by cases ne h1 e)]; exact h1, h2, fun pos cv hcv => ?_⟩
      obtain ⟨c', e1, e2⟩ := h3 pos cv hcv
      refine ⟨c', e1, ?_⟩
      rw [upd_ne (fun e => by cases ne e2 e)]
      exact e2
    len := q.len
    dj := q.dj
    sl := fun i sv hi => by
      cases sv with
      | val d => exact q.sl i _ hi
      | own k =>
        obtain ⟨a', h1, h2, h3, h4, h5⟩ := q.sl i _ hi
        exact ⟨a', h1, h2, h3, muSet_none h h4, h5.stay (Same.refl _) fun u q => by
          rw [upd_ne (fun e => by rw [e, h] at h4; cases h4)]
          exact q⟩ }
/-- the object at a -/
@[irreducible] def objAt (cns : List Str) (μ : Mu) (x : D) (k : Addr → Str → Addr → List (Str × D) → Prop) : Prop := match x with
  | .hnd a => match μ a with
    | some (.obj cn dx fs) => cn ∈ cns ∧ k a cn dx fs
    | _ => False
  | _ => False
theorem obj_ok {cn : Str} {dx : Addr} {fs : List (Str × D)} {k : Addr → Str → Addr → List (Str × D) → Prop} (hm : μ ad = some (.obj cn dx fs)) (h : cn ∈ cns) (q : k ad cn dx fs) : objAt cns μ (.hnd ad) k := by
  unfold objAt
  show match μ ad with
    | some (.obj cn dx fs) => cn ∈ cns ∧ k ad cn dx fs
    | _ => False
  rw [hm]
  exact ⟨h, q⟩
theorem objAt_of {y : D} {k : Addr → Str → Addr → List (Str × D) → Prop} (h : objAt cns μ y k) : ∃ a cn dx fs, y = .hnd a ∧ μ a = some (.obj cn dx fs) ∧ cn ∈ cns ∧ k a cn dx fs := by
  unfold objAt at h
  split at h
  · rename_i a
    split at h
    · rename_i cn dx fs hm
      exact ⟨a, cn, dx, fs, rfl, hm, h.1, h.2⟩
    · exact h.elim
  · exact h.elim
def wSetF (cns : List Str) (fl : Str) (wo wv : WE) : WS := fun n env μ => wv env μ (fun r μ1 => r.still fun d => wo env μ1 (fun r1 μ2 => objAt cns μ2 r1.d fun a cn dx fs => fs.length < 1000 ∧ n.nx env (muSet μ2 a (.obj cn dx (putD fl d fs)))) n.ex) n.ex
theorem px_setF {pos' : Pos} (hK : X.K = f.c.K) (hc : ∀ cn ∈ cns, FldOk f.c fl cn) (ho : PX X f W o wo) (hv : PX X f W e wv) (hs : swapsWith e (some (.Attribute o fl pos')) pos.line X.env = pure false := by rfl) : PXS X f W (.Assign [.Attribute o fl pos'] e pos) (wSetF cns fl wo wv) :=
  ps_imp (ps_fld ho hv hs) fun Dn σ H h => by
    obtain ⟨env, μ, F, n, rel, hw, ok⟩ := h
    refine ⟨env, μ, F, _, _, rel, hw, fun r1 μ1 v1 F1 H1 rel1 e1 rr1 q1 => ?_, fun x μ2 cls d F2 H2 rel2 e2 xr q2 => ok.ex x env μ2 σ cls d F2 H2 rel2 e2 xr q2⟩
    obtain ⟨F2, rel2, e2, rz1⟩ := settle rel1 rr1
    obtain ⟨s1, q2⟩ := still_ok rz1 q1
    have eA := e1.trans e2
    refine ⟨env, μ1, F2, _, _, rel2, q2, fun r2 μ2 v2 F3 H3 rel3 e3 rr2 q3 => ?_, fun x μ2 cls d F2 H2 rel2 e2 xr q2 => ok.ex x env μ2 σ cls d F2 H2 rel2 (eA.trans e2) xr q2⟩
    obtain ⟨F4, rel4, e4, rz2⟩ := settle rel3 rr2
    obtain ⟨a, cn, dx, fs, ea, hm, hcn, hlen, q4⟩ := objAt_of q3
    obtain ⟨C0, g1, g2, g3⟩ := (hc cn hcn).to
    obtain ⟨_, _, C, vs, h1, h2, h3, h4⟩ := rel4.mu a _ hm
    rw [g1] at h1
    cases h1
    have hl : vs.length = fs.length := by
      have := congrArg List.length h3
      rw [List.length_map, List.length_map] at this
      exact this
    refine ⟨a, C0, dx, vs, rz_hnd rz2 ea, h2, by rw [hK]; exact g2, by rw [hK]; exact g3, by omega, ?_⟩
    exact ok.nx _ _ σ F4 _ (rel4.writeObj hm g1 h2 (put_names h3) (put_reps (Rep.mono (e3.trans e4) _ _ s1) h3 h4)) ((eA.trans e3).trans e4) q4
end
end PD
set_option Elab.async false
set_option linter.all false
set_option maxRecDepth 100000
set_option maxHeartbeats 4000000
/-! PD22: new objects, methods. -/
namespace PD
open PySem PySem.Spec L2
section
variable {X : Cx} {f : Fm} {W : WX} {e a b cc o : Expr} {es rest : List Expr} {wa wb wc w wo wv : WE} {wr wk : WA} {pos apos : Pos} {env : Ev} {μ μ' : Mu} {σ : L2.St} {F F' H : Hp} {x : Str} {p : Pos} {st : Stmt} {ss : List Stmt} {n : En} {Dn : Ends} {ad : Addr} {m m' : MO} {fl : Str} {cns : List Str} {sp : SpD} {ds dd : List D} {vs : List V}
theorem Rel.unmu (q : Rel f env (muSet μ ad m) σ F H) (h : μ ad = none) : Rel f env μ σ F H :=
  { q with
    mu := fun b k hb => by
      have e : b ≠ ad := fun e => by
        rw [e, h] at hb
        cases hb
      exact q.mu b k (by rw [muSet_ne e]; exact hb)
    sl := fun i sv hi => by
      cases sv with
      | val d => exact q.sl i _ hi
      | own k =>
        obtain ⟨a', h1, h2, h3, h4, h5⟩ := q.sl i _ hi
        have e : a' ≠ ad := fun e => by
          rw [e, muSet_same] at h4
          cases h4
        rw [muSet_ne e] at h4
        exact ⟨a', h1, h2, h3, h4, h5⟩ }
theorem muSet_unset {m1 m2 : MO} : muSet (muSet μ ad m1) ad m2 = muSet μ ad m2 := muSet_set
/-- what the caller wants of C(..)'s __init__ -/
def mkQ (cn : Str) (μ1 : Mu) (x dx : Addr) (Q : R → Mu → Prop) : R → Mu → Prop := fun r μ2 => r = .fz .non ∧ ∃ fs, μ2 = muSet μ1 x (.obj cn dx fs) ∧ Q (.fz (.ins cn (fs.map (·.1)) (fs.map (·.2)))) μ1
def mkE (μ1 : Mu) (x : Addr) (E : Exc → Mu → Prop) : Exc → Mu → Prop := fun e μ2 => (∃ o, μ2 = muSet μ1 x o) ∧ E e μ1
theorem make_ok {cn : Str} {C : Addr} {Q : VK} {Qp : R → Mu → Prop} {Ep : Exc → Mu → Prop} (hC : f.c.mg cn = some (.ref C)) (q : Rel f env μ σ F H) (r : Reps f.c F vs ds)
    (h : ∀ x dx, μ x = none → sp (.hnd x :: ds) (muSet μ x (.obj cn dx [])) (mkQ cn μ x dx Qp) (mkE μ x Ep))
    (k : ∀ r μ' v F' H', Rel f env μ' σ F' H' → Same F F' → RR f env μ' σ F' H' v r → Qp r μ' → Q v H')
    (kx : ∀ x μ' cls d F' H', Rel f env μ' σ F' H' → Same F F' → XR f.c F' H' x cls d → Ep x μ' → W cls d σ H') :
    ∀ x dx, H x = none → H dx = none → dx ≠ x → spOf f.c sp (.ref x :: vs) (upd (upd H dx (.own x)) x (.ins C dx [])) (fun v H2 => v = .non ∧ Q (.ref x) H2) (L2.WE W σ) := by
  intro x dx hx hdx hne
  have nt1 : ∀ ps, HO.own x ≠ .tbl ps := fun ps z => by cases z
  have nt2 : ∀ fs ps, HO.ins C dx fs ≠ .tbl ps := fun fs ps z => by cases z
  have hx' : upd H dx (.own x) x = none := by rw [upd_ne (Ne.symm hne)]; exact hx
  have rel1 := q.laid (o := .own x) hdx nt1
  have rel2 := rel1.laid (o := .ins C dx []) hx' (nt2 _)
  have rel3 := rel2.share (ad := x) (m := .obj cn dx []) (q.bnone hx) (q.bt x hx) (q.mnone hx) (q.notOwn hx) ⟨C, [], hC, upd_same, rfl, .nil⟩
  have hdx2 : upd (upd H dx (.own x)) x (.ins C dx []) dx = some (.own x) := by rw [upd_ne hne, upd_same]
  have hmdx : muSet μ x (.obj cn dx []) dx = none := by rw [muSet_ne hne]; exact q.mnone hdx
  have hBdx := PD.entryB_of hdx2 hmdx nt1
  refine ⟨.hnd x :: ds, _, F, entryB _ _, _, _, .cons (.hnd x) r, rel3.toFit.entry, fun b o ho hm nt => PD.entryB_of ho hm nt, h x dx (q.mnone hx), fun r μ' v F' H' hf rr qq => ?_, fun e μ' cls d F' H' hf xr qq => ?_⟩
  · obtain ⟨rfl, fs, rfl, q2⟩ := qq
    have rr' : Rep f.c F' v .non := rr
    cases rr'
    refine ⟨rfl, ?_⟩
    have relB := rel3.behind hf
    obtain ⟨nfx, nbx, C', vs', hC', hx2, hn, hr⟩ := relB.mu x _ muSet_same
    rw [hC] at hC'
    cases hC'
    have relD := relB.unmu (q.mnone hx)
    have no : ∀ (i : Nat) (k' : Cont), env[i]? = some (some (.own k')) → σ[i]? ≠ some (some (.ref x)) := fun i k' hi z => by
      obtain ⟨a', g1, g2, g3, g4, g5⟩ := relB.sl i _ hi
      rw [z] at g1
      cases g1
      rw [muSet_same] at g4
      cases g4
    have relS := relD.still hx2 nfx nbx (q.mnone hx) (nt2 _) no
    have hdx3 : H' dx = some (.own x) := hf.bh dx _ hBdx
    have nfdx : F' dx = none := by
      cases e : F' dx with
      | none => rfl
      | some u =>
        rcases hf.fb dx u e with z | z
        · have z' : F dx = some u := z
          rw [q.bnone hdx] at z'
          cases z'
        · have z' : entryB _ _ dx = none := z
          rw [hBdx] at z'
          cases z'
    have relT := relS.still (a := dx) (o := .own x) hdx3 (by rw [upd_ne hne]; exact nfdx) (q.bt dx hdx) (q.mnone hdx) nt1 fun i k' hi z => by
      obtain ⟨a', g1, g2, g3, g4, g5⟩ := relS.sl i _ hi
      rw [z] at g1
      cases g1
      cases k' with
      | lst l => obtain ⟨xs, g6, _⟩ := g5; rw [hdx3] at g6; cases g6
      | dic ks vs => obtain ⟨kvs, g6, _⟩ := g5; rw [hdx3] at g6; cases g6
      | dct ks vs => obtain ⟨kvs, g6, _⟩ := g5; rw [hdx3] at g6; cases g6
    have sm : Same F' (upd (upd F' x (.ins C dx vs')) dx (.own x)) := (same_upd nfx).trans (same_upd (by rw [upd_ne hne]; exact nfdx))
    refine k (.fz (.ins cn (fs.map (·.1)) (fs.map (·.2)))) μ (.ref x) _ H' relT (hf.f0.trans sm) ?_ q2
    show Rep f.c _ (.ref x) (.ins cn (fs.map (·.1)) (fs.map (·.2)))
    rw [← hn]
    exact .ins (dx := dx) (C := C) hC (by rw [upd_ne (Ne.symm hne)]; exact upd_same) upd_same (Reps.mono sm _ _ hr)
  · obtain ⟨⟨o', rfl⟩, q2⟩ := qq
    exact kx e μ cls d F' H' ((rel3.behind hf).unmu (q.mnone hx)) hf.f0 xr q2
theorem run_makeS {CX : CXT} {k : Nat} {fI C : Addr} {fd : FuncData} {ps : List Str} {dvs : List V} {dsv : List Value} {spv : Sp} {E : XK} {pins : List (Addr × Obj)} {s : Shared} {Q : VK} {us : List Value} (M : Mk X.K C fI) (G : FnOk X.prog X.w X.K X.mg X.base CX k fI fd ps spv) (hr : Room (k + 1) X.A) (hb : Binds X.K fd ps dsv) (hd : Vals dvs dsv)
    (hx : PassesAt CX X σ E) (I : Inv X pins σ H s) (r : Vals vs us)
    (h : ∀ x dx, H x = none → H dx = none → dx ≠ x → spv (.ref x :: (vs ++ dvs)) (upd (upd H dx (.own x)) x (.ins C dx [])) (fun v H2 => v = .non ∧ Q (.ref x) H2) E) :
    wpAny (model X.prog X.w) X.A (call (.ref C) us) (EP X pins σ Q) X.xe s := by
  have hq := h (s.heap.objs.size + 1) s.heap.objs.size (I.hok.fresh (Nat.le_succ _)) (I.hok.fresh (Nat.le_refl _)) (Nat.ne_of_lt (Nat.lt_succ_self _))
  have I2 := Inv.made (C := C) I
  have r2 : Vals (V.ref (s.heap.objs.size + 1) :: (vs ++ dvs)) (Value.ref (s.heap.objs.size + 1) :: (us ++ dsv)) := .cons rfl (r.append hd)
  have hl : (Value.ref (s.heap.objs.size + 1) :: us ++ dsv).length = ps.length := by
    have e := r2.length
    rw [G.len _ _ _ _ hq] at e
    exact e.symm
  refine wpAny_call (make_map (f := fI) I.kIn M.makes M.init (beq_iff_eq.mp M.fn) (codeAny_mono (G.run _ X.stack _ _ ⟨Value.ref (s.heap.objs.size + 1) :: us, []⟩ (Value.ref (s.heap.objs.size + 1) :: (us ++ dsv)) _ _ E (hr.make C us [])
    (I2.env0.make C us []) (hb _ (Value.ref (s.heap.objs.size + 1) :: us) I2.kIn hl) r2 hq) fun r s' hq' => ?_))
  cases r with
  | error e => exact hx pins _ _ e s' I2 hq'
  | ok fl =>
    cases fl with
    | ret u =>
      obtain ⟨v, H', I3, rv, ev, q3⟩ := I2.after hq'
      subst ev
      exact ⟨rv, ⟨V.ref (s.heap.objs.size + 1), H', I3, rfl, q3⟩⟩
    | next => exact False.elim hq'
    | brk => exact False.elim hq'
    | cont => exact False.elim hq'
def wMake (cn : Str) (sp : SpD) (dd : List D) (wr : WA) : WE := fun env μ Q E => wr env μ (fun ds μ1 => ∀ x dx, μ1 x = none → sp (.hnd x :: (ds ++ dd)) (muSet μ1 x (.obj cn dx [])) (mkQ cn μ1 x dx Q) (mkE μ1 x E)) E
theorem px_make {cn : Str} {k : Nat} {fI C : Addr} {fd : FuncData} {ps : List Str} {dvs : List V} {dsv : List Value} (M : Mk X.K C fI) (G : FnOk X.prog X.w X.K X.mg X.base (L2.CX X.prog X.w) k fI fd ps (spOf f.c sp)) (hr : Room (k + 1) X.A) (hg : Gl X cn) (hmg : X.mg = f.c.mg) (hm : X.mg cn = some (.ref C)) (hb : Binds X.K fd ps dsv) (hd : Vals dvs dsv)
    (hdd : ∀ F, Reps f.c F dvs dd) (tk : Takes X W) (ha : PXA X f W (e :: es) wr) (hdb : (cn == ("__debug__" : Str)) = false := by decide) (he : starEach (e :: es) X.env = (false, eval e X.env) :: starEach es X.env := by rfl) (hpl : (backTo pos (starEach es X.env)).any (·.1) = false := by rfl) :
    PX X f W (.Call (.Name cn p) (e :: es) [] pos) (wMake cn sp dd wr) := by
  refine ⟨fun pins s σ H Q I h => ?_⟩
  obtain ⟨env, μ, F, Qp, Ep, rel, hw, k', kx⟩ := h
  have go : La f W wr σ H fun vs H1 => ∀ x dx, H1 x = none → H1 dx = none → dx ≠ x → spOf f.c sp (.ref x :: (vs ++ dvs)) (upd (upd H1 dx (.own x)) x (.ins C dx [])) (fun v H2 => v = .non ∧ Q (.ref x) H2) (L2.WE W σ) := by
    refine ⟨env, μ, F, _, Ep, rel, hw, fun ds μ1 vs F1 H1 rel1 e1 r1 q1 => ?_, kx⟩
    exact make_ok (by rw [← hmg]; exact hm) rel1 (r1.app (hdd F1)) q1 (fun r μ2 v F2 H2 rel2 e2 rr2 q2 => k' r μ2 v F2 H2 rel2 (e1.trans e2) rr2 q2) fun x μ2 cls d F2 H2 rel2 e2 xr q2 => kx x μ2 cls d F2 H2 rel2 (e1.trans e2) xr q2
  refine wpAny_Call_Name_kw (ld_glob I hg hm ?_ hdb)
  refine PySem.W.callWith_K (h₀ := X.base) I.ok.mod.kin M.kp (thn (ha.run pos pins s σ H _ I go) fun us s1 ⟨vs, H1, I1, r, q⟩ => ⟨I1.kIn, ?_⟩) he hpl
  exact run_makeS M G hr hb hd (passAt tk σ) I1 r q
/-- .. by keywords -/
theorem run_makeK {CX : CXT} {k n : Nat} {fI C : Addr} {fd : FuncData} {ps ks : List Str} {spv : Sp} {gg : List Value → List Value → List Value} {gV : List V → List V → List V} {E : XK} {pins : List (Addr × Obj)} {s : Shared} {Q : VK} {us ws : List Value} {zs : List V} (M : Mk X.K C fI) (G : FnOk X.prog X.w X.K X.mg X.base CX k fI fd ps spv) (hr : Room (k + 1) X.A) (hb : KBn X.K fd ps (n + 1) ks gg gV)
    (hx : PassesAt CX X σ E) (I : Inv X pins σ H s) (r : Vals vs us) (rz : Vals zs ws) (l1 : vs.length = n) (l2 : zs.length = ks.length)
    (h : ∀ x dx, H x = none → H dx = none → dx ≠ x → spv (gV (.ref x :: vs) zs) (upd (upd H dx (.own x)) x (.ins C dx [])) (fun v H2 => v = .non ∧ Q (.ref x) H2) E) :
    wpAny (model X.prog X.w) X.A (call (.ref C) us (ks.zip ws)) (EP X pins σ Q) X.xe s := by
  have hq := h (s.heap.objs.size + 1) s.heap.objs.size (I.hok.fresh (Nat.le_succ _)) (I.hok.fresh (Nat.le_refl _)) (Nat.ne_of_lt (Nat.lt_succ_self _))
  have I2 := Inv.made (C := C) I
  have r1 : Vals (V.ref (s.heap.objs.size + 1) :: vs) (Value.ref (s.heap.objs.size + 1) :: us) := .cons rfl r
  have r2 := hb.rel r1 rz
  have e1 : (Value.ref (s.heap.objs.size + 1) :: us).length = n + 1 := r1.length.symm.trans (congrArg Nat.succ l1)
  have e2 : ws.length = ks.length := rz.length.symm.trans l2
  refine wpAny_call (make_map (f := fI) I.kIn M.makes M.init (beq_iff_eq.mp M.fn) (codeAny_mono (G.run _ X.stack _ _ ⟨Value.ref (s.heap.objs.size + 1) :: us, ks.zip ws⟩ (gg (Value.ref (s.heap.objs.size + 1) :: us) ws) _ _ E (hr.make C us (ks.zip ws))
    (I2.env0.make C us (ks.zip ws)) (hb.to _ (Value.ref (s.heap.objs.size + 1) :: us) ws I2.kIn e1 e2) r2 hq) fun r s' hq' => ?_))
  cases r with
  | error e => exact hx pins _ _ e s' I2 hq'
  | ok fl =>
    cases fl with
    | ret u =>
      obtain ⟨v, H', I3, rv, ev, q3⟩ := I2.after hq'
      subst ev
      exact ⟨rv, ⟨V.ref (s.heap.objs.size + 1), H', I3, rfl, q3⟩⟩
    | next => exact False.elim hq'
    | brk => exact False.elim hq'
    | cont => exact False.elim hq'
/-- n values (without self), m keywords; gD puts them in the parameters' order, self ahead -/
def wMakeK (cn : Str) (sp : SpD) (n m : Nat) (wr wk : WA) : WE := fun env μ Q E => wr env μ (fun ds μ1 => wk env μ1 (fun es μ2 => ds.length = n ∧ es.length = m ∧ ∀ x dx, μ2 x = none → sp (.hnd x :: (ds ++ es)) (muSet μ2 x (.obj cn dx [])) (mkQ cn μ2 x dx Q) (mkE μ2 x E)) E) E
theorem px_makeK {cn : Str} {k n : Nat} {fI C : Addr} {fd : FuncData} {ps ks : List Str} {kws : List Keyword} (M : Mk X.K C fI) (G : FnOk X.prog X.w X.K X.mg X.base (L2.CX X.prog X.w) k fI fd ps (spOf f.c sp)) (hr : Room (k + 1) X.A) (hg : Gl X cn) (hmg : X.mg = f.c.mg) (hm : X.mg cn = some (.ref C))
    (hb : KBd X.K fd ps (n + 1) ks (· ++ ·) (· ++ ·) (· ++ ·)) (tk : Takes X W) (ha : PXA X f W (e :: es) wr) (hkw : PK X kws (La f W wk)) (hall : (backToKw pos (keywordEach kws X.env)).all (·.1.isSome) = true := by rfl)
    (hks : (backToKw pos (keywordEach kws X.env)).filterMap (·.1) = ks := by rfl) (hdb : (cn == ("__debug__" : Str)) = false := by decide) (he : starEach (e :: es) X.env = (false, eval e X.env) :: starEach es X.env := by rfl)
    (hpl : ((backTo pos (starEach (e :: es) X.env)).any (·.1) || (backToKw pos (keywordEach kws X.env)).any (·.1.isNone)) = false := by rfl) : PX X f W (.Call (.Name cn p) (e :: es) kws pos) (wMakeK cn sp n ks.length wr wk) := by
  refine ⟨fun pins s σ H Q I h => ?_⟩
  obtain ⟨env, μ, F, Qp, Ep, rel, hw, k', kx⟩ := h
  have go : La f W wr σ H fun vs H1 => La f W wk σ H1 fun zs H2 => vs.length = n ∧ zs.length = ks.length ∧ ∀ x dx, H2 x = none → H2 dx = none → dx ≠ x → spOf f.c sp (.ref x :: vs ++ zs) (upd (upd H2 dx (.own x)) x (.ins C dx [])) (fun v H2 => v = .non ∧ Q (.ref x) H2) (L2.WE W σ) := by
    refine ⟨env, μ, F, _, Ep, rel, hw, fun ds μ1 vs F1 H1 rel1 e1 r1 q1 => ?_, kx⟩
    refine ⟨env, μ1, F1, _, Ep, rel1, q1, fun es μ2 zs F2 H2 rel2 e2 r2 q2 => ?_, fun x μ2 cls d F2 H2 rel2 e2 xr q2 => kx x μ2 cls d F2 H2 rel2 (e1.trans e2) xr q2⟩
    refine ⟨by rw [r1.len]; exact q2.1, by rw [r2.len]; exact q2.2.1, ?_⟩
    exact make_ok (by rw [← hmg]; exact hm) rel2 ((Reps.mono e2 _ _ r1).app r2) q2.2.2 (fun r μ3 v F3 H3 rel3 e3 rr3 q3 => k' r μ3 v F3 H3 rel3 ((e1.trans e2).trans e3) rr3 q3) fun x μ3 cls d F3 H3 rel3 e3 xr q3 => kx x μ3 cls d F3 H3 rel3 ((e1.trans e2).trans e3) xr q3
  refine wpAny_Call_Name_kw (ld_glob I hg hm ?_ hdb)
  refine PySem.W.callWith_KW (h₀ := X.base) I.ok.mod.kin M.kp hall (thn (ha.run pos pins s σ H _ I go) fun us s1 hv => ?_) hpl he
  obtain ⟨vs, H1, I1, r, q⟩ := hv
  refine thn (hkw.run pos pins s1 σ H1 _ I1 q) fun wz s2 hz => ?_
  obtain ⟨zs, H2, I2, rz, l1, l2, q2⟩ := hz
  refine ⟨I2.kIn, ?_⟩
  rw [hks]
  exact run_makeK M G hr hb.toKBn (passAt tk σ) I2 r rz l1 l2 q2
/-! ### methods -/
structure MethR (X : Cx) (c : Cfg) (m cn : Str) (sp : SpD) (dd : List D) : Prop where
  to : ∃ (C g : Addr) (k : Nat) (fd : FuncData) (ps : List Str) (dvs : List V) (dsv : List Value), c.mg cn = some (.ref C) ∧ Cls X.K C ∧ Meth X.K C m g ∧ FnOk X.prog X.w X.K X.mg X.base (L2.CX X.prog X.w) k g fd ps (spOf c sp) ∧ Room k X.A ∧ Binds X.K fd ps dsv ∧ Vals dvs dsv ∧ (∀ F, Reps c F dvs dd)
abbrev MTab := List (Str × SpD × List D)
@[irreducible] def methAt (tab : MTab) (m : Str) (μ : Mu) (x : D) (k : SpD → List D → Prop) : Prop := match x with
  | .ins cn ns _ => m ∉ ns ∧ match tab.lookup cn with
    | some (sp, dd) => k sp dd
    | none => False
  | .hnd a => match μ a with
    | some (.obj cn _ fs) => m ∉ fs.map (·.1) ∧ match tab.lookup cn with
      | some (sp, dd) => k sp dd
      | none => False
    | _ => False
  | _ => False
theorem meth_ins {tab : MTab} {m cn : Str} {ns : List Str} {vs : List D} {k : SpD → List D → Prop} {sp : SpD} {dd : List D} (h : m ∉ ns) (l : tab.lookup cn = some (sp, dd)) (q : k sp dd) : methAt tab m μ (.ins cn ns vs) k := by
  unfold methAt
  refine ⟨h, ?_⟩
  rw [l]
  exact q
theorem meth_obj {tab : MTab} {m cn : Str} {dx : Addr} {fs : List (Str × D)} {k : SpD → List D → Prop} {sp : SpD} {dd : List D} (hm : μ ad = some (.obj cn dx fs)) (h : m ∉ fs.map (·.1)) (l : tab.lookup cn = some (sp, dd)) (q : k sp dd) : methAt tab m μ (.hnd ad) k := by
  unfold methAt
  show match μ ad with
    | some (.obj cn _ fs) => m ∉ fs.map (·.1) ∧ match tab.lookup cn with
      | some (sp, dd) => k sp dd
      | none => False
    | _ => False
  rw [hm]
  refine ⟨h, ?_⟩
  rw [l]
  exact q
theorem methAt_of {tab : MTab} {m : Str} {y : D} {k : SpD → List D → Prop} (h : methAt tab m μ y k) : ∃ cn sp dd, tab.lookup cn = some (sp, dd) ∧ k sp dd ∧ ((∃ ns vs, y = .ins cn ns vs ∧ m ∉ ns) ∨ (∃ a dx fs, y = .hnd a ∧ μ a = some (.obj cn dx fs) ∧ m ∉ fs.map (·.1))) := by
  unfold methAt at h
  split at h
  · rename_i cn ns vs
    obtain ⟨h1, h2⟩ := h
    split at h2
    · rename_i sp dd hl
      exact ⟨cn, sp, dd, hl, h2, .inl ⟨ns, vs, rfl, h1⟩⟩
    · exact h2.elim
  · rename_i a
    split at h
    · rename_i cn dx fs hm
      obtain ⟨h1, h2⟩ := h
      split at h2
      · rename_i sp dd hl
        exact ⟨cn, sp, dd, hl, h2, .inr ⟨a, dx, fs, rfl, hm, h1⟩⟩
      · exact h2.elim
    · exact h.elim
  · exact h.elim
def wMeth (tab : MTab) (m : Str) (wo : WE) (wr : WA) : WE := fun env μ Q E => wo env μ (fun r μ1 => methAt tab m μ1 r.d fun sp dd => wr env μ1 (fun ds μ2 => sp (r.d :: (ds ++ dd)) μ2 Q E) E) E
def tMethC (K : PySem.W.Frag) (m : Str) (ta : TE) (k : Addr → V → St → Hp → VK → Prop) : TE := fun σ H Q => ta σ H fun x H1 => ∃ a C dx fs g, x = .ref a ∧ H1 a = some (.ins C dx fs) ∧ Cls K C ∧ Meth K C m g ∧ fs.lookup m = none ∧ k g x σ H1 Q
theorem lookup_none {m : Str} : ∀ {fs : List (Str × V)}, m ∉ fs.map (·.1) → fs.lookup m = none
  | [], _ => rfl
  | (g, v) :: fs, h => by
    have h1 : m ≠ g := fun e => h (by rw [e]; exact List.mem_cons_self ..)
    have h2 : (m == g) = false := beq_eq_false_iff_ne.mpr h1
    unfold List.lookup
    rw [h2]
    exact lookup_none fun z => h (List.mem_cons_of_mem _ z)
theorem mem_lookup {tab : MTab} {cn : Str} {y : SpD × List D} : tab.lookup cn = some y → (cn, y) ∈ tab := by
  induction tab with
  | nil => intro h; cases h
  | cons z tab ih =>
    obtain ⟨g, v⟩ := z
    intro h
    unfold List.lookup at h
    cases e : (cn == g) with
    | true =>
      rw [e] at h
      cases h
      rw [eq_of_beq e]
      exact List.mem_cons_self ..
    | false =>
      rw [e] at h
      exact List.mem_cons_of_mem _ (ih h)
/-- the receiver, and what is called -/
theorem meth_pre {tab : MTab} {m : Str} (hK : X.K = f.c.K) (hc : ∀ cn sp dd, (cn, sp, dd) ∈ tab → MethR X f.c m cn sp dd) {v1 : V} {r1 : R} (rel : Rel f env μ σ F H) (rz : RZ f env σ F v1 r1) {k : SpD → List D → Prop} (h : methAt tab m μ r1.d k) :
    ∃ (a C dx g : Addr) (fs : List (Str × V)) (sp : SpD) (dd : List D), v1 = .ref a ∧ H a = some (.ins C dx fs) ∧ Cls X.K C ∧ Meth X.K C m g ∧ fs.lookup m = none ∧ k sp dd ∧ Rep f.c F v1 r1.d ∧
      ∃ (n : Nat) (fd : FuncData) (ps : List Str) (dvs : List V) (dsv : List Value), FnOk X.prog X.w X.K X.mg X.base (L2.CX X.prog X.w) n g fd ps (spOf f.c sp) ∧ Room n X.A ∧ Binds X.K fd ps dsv ∧ Vals dvs dsv ∧ (∀ F, Reps f.c F dvs dd) := by
  obtain ⟨cn, sp, dd, hl, hk, hy⟩ := methAt_of h
  obtain ⟨C0, g, n, fd, ps, dvs, dsv, g1, g2, g3, g4, g5, g6, g7, g8⟩ := (hc cn sp dd (mem_lookup hl)).to
  rcases hy with ⟨ns, vs, ey, hn⟩ | ⟨a, dx, fs, ey, hm, hn⟩
  · have rp := rz_ins rz ey
    obtain ⟨a, dx, C, fs, rfl, h1, h2, h3, rfl, h4⟩ := ins_at rp
    rw [g1] at h1
    cases h1
    exact ⟨a, C0, dx, g, fs, sp, dd, rfl, rel.fh _ _ h2, g2, g3, lookup_none hn, hk, by rw [ey]; exact rp, n, fd, ps, dvs, dsv, g4, g5, g6, g7, g8⟩
  · obtain ⟨_, _, C, vs, h1, h2, h3, h4⟩ := rel.mu a _ hm
    rw [g1] at h1
    cases h1
    have ev := rz_hnd rz ey
    subst ev
    exact ⟨a, C0, dx, g, vs, sp, dd, rfl, h2, g2, g3, lookup_none (by rw [h3]; exact hn), hk, by rw [ey]; exact .hnd a, n, fd, ps, dvs, dsv, g4, g5, g6, g7, g8⟩
theorem px_meth {tab : MTab} {m : Str} {pl : Sem Bool} (hK : X.K = f.c.K) (hc : ∀ cn sp dd, (cn, sp, dd) ∈ tab → MethR X f.c m cn sp dd) (tk : Takes X W) (ho : PX X f W o wo) (ha : PXA X f W (e :: es) wr)
    (hst : starEach (e :: es) X.env = (false, eval e X.env) :: starEach es X.env := by rfl) (hpl : (backTo pos (starEach es X.env)).any (·.1) = false := by rfl)
    (ht : eval (.Call (.Attribute o m apos) (e :: es) [] pos) X.env = (do
      let ov ← eval o X.env
      standAt apos.atName
      let (f, first) ← holding [ov] (getMethod ov m pl)
      callWith pos f first (backTo pos (starEach (e :: es) X.env)) (backToKw pos (keywordEach [] X.env))) := by rfl) :
    PX X f W (.Call (.Attribute o m apos) (e :: es) [] pos) (wMeth tab m wo wr) := by
  refine ⟨fun pins s σ H Q I h => ?_⟩
  obtain ⟨env, μ, F, Qp, Ep, rel, hw, k', kx⟩ := h
  refine PySem.W.methodCall_KW (pl := pl) (thn (ho.run pins s σ H (fun v1 H1 => ∃ μ1 F1 r1, Rel f env μ1 σ F1 H1 ∧ Same F F1 ∧ RZ f env σ F1 v1 r1 ∧ methAt tab m μ1 r1.d fun sp dd => wr env μ1 (fun ds μ2 => sp (r1.d :: (ds ++ dd)) μ2 Qp Ep) Ep) I
    ⟨env, μ, F, _, Ep, rel, hw, fun r1 μ1 v1 F1 H1 rel1 e1 rr1 q1 => by
      obtain ⟨F2, rel2, e2, rz1⟩ := settle rel1 rr1
      exact ⟨μ1, F2, r1, rel2, e1.trans e2, rz1, q1⟩, kx⟩) fun u s1 hv => ?_) ht
  obtain ⟨v1, H1, I1, rx, μ1, F1, r1, rel1, e1, rz1, q1⟩ := hv
  obtain ⟨a, C, dx, g, fs, sp, dd, rfl, h1, h2, h3, h4, hk, rp, n, fd, ps, dvs, dsv, G, hr, hb, hd, hdd⟩ := meth_pre hK hc rel1 rz1 q1
  obtain rfl : u = Value.ref a := rx
  refine getmeth_ok I1 h1 h2 h3 h4 ?_
  have go : La f W wr σ H1 fun vs H2 => spOf f.c sp (.ref a :: (vs ++ dvs)) H2 Q (L2.WE W σ) := by
    refine ⟨env, μ1, F1, _, Ep, rel1, hk, fun ds μ2 vs F2 H2 rel2 e2 r2 q2 => ?_, fun x μ2 cls d F2 H2 rel2 e2 xr q2 => kx x μ2 cls d F2 H2 rel2 (e1.trans e2) xr q2⟩
    exact sp_of rel2 (.cons (Rep.mono e2 _ _ rp) (r2.app (hdd F2))) q2 (fun r μ3 v F3 H3 rel3 e3 rr3 q3 => k' r μ3 v F3 H3 rel3 ((e1.trans e2).trans e3) rr3 q3) fun x μ3 cls d F3 H3 rel3 e3 xr q3 => kx x μ3 cls d F3 H3 rel3 ((e1.trans e2).trans e3) xr q3
  refine PySem.W.callWith_K (first := [.ref a]) (h₀ := X.base) I.ok.mod.kin h3.kp (thn (ha.run pos pins s1 σ H1 _ I1 go) fun us s2 hv2 => ?_) hst hpl
  obtain ⟨vs, H2, I2, r, q2⟩ := hv2
  refine ⟨I2.kIn, ?_⟩
  exact run_fnSD (E := fun σ => L2.WE W σ) (us := .ref a :: us) (vs := .ref a :: vs) G hr hb hd (passAt tk σ) I2 (.cons rfl r) q2
theorem px_meth0 {tab : MTab} {m : Str} {pl : Sem Bool} (hK : X.K = f.c.K) (hc : ∀ cn sp dd, (cn, sp, dd) ∈ tab → MethR X f.c m cn sp dd) (tk : Takes X W) (ho : PX X f W o wo)
    (ht : eval (.Call (.Attribute o m apos) [] [] pos) X.env = (do
      let ov ← eval o X.env
      standAt apos.atName
      let (f, first) ← holding [ov] (getMethod ov m pl)
      callWith pos f first (backTo pos (starEach [] X.env)) (backToKw pos (keywordEach [] X.env))) := by rfl) :
    PX X f W (.Call (.Attribute o m apos) [] [] pos) (wMeth tab m wo wNil) := by
  refine ⟨fun pins s σ H Q I h => ?_⟩
  obtain ⟨env, μ, F, Qp, Ep, rel, hw, k', kx⟩ := h
  refine PySem.W.methodCall_KW (pl := pl) (thn (ho.run pins s σ H (fun v1 H1 => ∃ μ1 F1 r1, Rel f env μ1 σ F1 H1 ∧ Same F F1 ∧ RZ f env σ F1 v1 r1 ∧ methAt tab m μ1 r1.d fun sp dd => sp (r1.d :: ([] ++ dd)) μ1 Qp Ep) I
    ⟨env, μ, F, _, Ep, rel, hw, fun r1 μ1 v1 F1 H1 rel1 e1 rr1 q1 => by
      obtain ⟨F2, rel2, e2, rz1⟩ := settle rel1 rr1
      exact ⟨μ1, F2, r1, rel2, e1.trans e2, rz1, q1⟩, kx⟩) fun u s1 hv => ?_) ht
  obtain ⟨v1, H1, I1, rx, μ1, F1, r1, rel1, e1, rz1, q1⟩ := hv
  obtain ⟨a, C, dx, g, fs, sp, dd, rfl, h1, h2, h3, h4, hk, rp, n, fd, ps, dvs, dsv, G, hr, hb, hd, hdd⟩ := meth_pre hK hc rel1 rz1 q1
  obtain rfl : u = Value.ref a := rx
  refine getmeth_ok I1 h1 h2 h3 h4 ?_
  have go : spOf f.c sp (.ref a :: ([] ++ dvs)) H1 Q (L2.WE W σ) :=
    sp_of rel1 (.cons rp (hdd F1)) hk (fun r μ3 v F3 H3 rel3 e3 rr3 q3 => k' r μ3 v F3 H3 rel3 (e1.trans e3) rr3 q3) fun x μ3 cls d F3 H3 rel3 e3 xr q3 => kx x μ3 cls d F3 H3 rel3 (e1.trans e3) xr q3
  exact PySem.W.callWith_K0 (first := [.ref a]) I1.kIn h3.kp (run_fnSD (E := fun σ => L2.WE W σ) (us := [.ref a]) (vs := [.ref a]) G hr hb hd (passAt tk σ) I1 (.cons rfl .nil) go)
end
end PD
set_option Elab.async false
set_option linter.all false
set_option maxRecDepth 100000
set_option maxHeartbeats 4000000
/-! PD23: a.x, b.y, c.z = e1, e2, e3. -/
namespace PD
open PySem PySem.Spec L2
section
variable {X : Cx} {f : Fm} {W : WX} {e a b cc o o1 o2 o3 e1 e2 e3 : Expr} {es rest : List Expr} {wa wb wc w wo wv wo1 wo2 wo3 : WE} {wr wk : WA} {pos apos : Pos} {env : Ev} {μ μ' : Mu} {σ : L2.St} {F F' H : Hp} {x : Str} {p : Pos} {st : Stmt} {ss : List Stmt} {n : En} {Dn : Ends} {ad : Addr} {m m' : MO} {fl f1 f2 f3 : Str} {cns c1 c2 c3 : List Str} {to : TE}
def gAt (K : PySem.W.Frag) (to : TE) (fl : Str) : TG := fun v σ H Q => to σ H fun x H1 => ∃ a C dx fs, x = .ref a ∧ H1 a = some (.ins C dx fs) ∧ Cls K C ∧ NoAttr K C fl ∧ fs.length < 1000 ∧ Q σ (upd H1 a (.ins C dx (putF fl v fs)))
theorem pg_attr (ho : PE X o to) : PG X (.Attribute o fl pos) (gAt X.K to fl) := by
  refine ⟨fun pins s σ H v u Q I r h => ?_⟩
  rw [assign_Attribute]
  refine wpAny_bind (wpAny_holding (thn (ho.run pins s σ H _ I h) fun ov s1 hv => ?_))
  obtain ⟨x, H1, I1, rx, a, C, dx, fs, ex, ea, c, nn, l, q⟩ := hv
  subst ex
  obtain rfl : ov = Value.ref a := rx
  refine wpAny_bind (wpAny_standAt (wpAny_bind (wpAny_holding (setattr_ok I1 ea c nn l r fun s3 I3 => ?_))))
  exact wpAny_release ⟨σ, _, I3, q⟩
/-- one field of it -/
def setAt (cns : List Str) (fl : Str) (wo : WE) (d : D) (k : Mu → Prop) (E : Exc → Mu → Prop) (env : Ev) (μ : Mu) : Prop := wo env μ (fun r1 μ2 => objAt cns μ2 r1.d fun a cn dx fs => fs.length < 1000 ∧ k (muSet μ2 a (.obj cn dx (putD fl d fs)))) E
theorem gat_ok {v : V} {d : D} {k : Mu → Prop} {E : Exc → Mu → Prop} {Q : L2.St → Hp → Prop} (hK : X.K = f.c.K) (hc : ∀ cn ∈ cns, FldOk f.c fl cn) (rel : Rel f env μ σ F H) (rd : Rep f.c F v d) (h : setAt cns fl wo d k E env μ)
    (kx : ∀ x μ2 cls d F2 H2, Rel f env μ2 σ F2 H2 → Same F F2 → XR f.c F2 H2 x cls d → E x μ2 → W cls d σ H2)
    (q : ∀ μ' F' H', Rel f env μ' σ F' H' → Same F F' → k μ' → Q σ H') : gAt X.K (Lf f W wo) fl v σ H Q := by
  refine ⟨env, μ, F, _, E, rel, h, fun r2 μ2 v2 F3 H3 rel3 e3 rr2 q3 => ?_, kx⟩
  obtain ⟨F4, rel4, e4, rz2⟩ := settle rel3 rr2
  obtain ⟨a, cn, dx, fs, ea, hm, hcn, hlen, q4⟩ := objAt_of q3
  obtain ⟨C0, g1, g2, g3⟩ := (hc cn hcn).to
  obtain ⟨_, _, C, vs, h1, h2, h3, h4⟩ := rel4.mu a _ hm
  rw [g1] at h1
  cases h1
  have hl : vs.length = fs.length := by
    have := congrArg List.length h3
    rw [List.length_map, List.length_map] at this
    exact this
  refine ⟨a, C0, dx, vs, rz_hnd rz2 ea, h2, by rw [hK]; exact g2, by rw [hK]; exact g3, by omega, ?_⟩
  exact q _ F4 _ (rel4.writeObj hm g1 h2 (put_names h3) (put_reps (Rep.mono (e3.trans e4) _ _ rd) h3 h4)) (e3.trans e4) q4
def wPar3F (c1 c2 c3 : List Str) (f1 f2 f3 : Str) (wo1 wo2 wo3 : WE) (wr : WA) : WS := fun n env μ => wr env μ (fun ds μ1 => ∃ d1 d2 d3, ds = [d1, d2, d3] ∧
  setAt c1 f1 wo1 d1 (fun μ2 => setAt c2 f2 wo2 d2 (fun μ3 => setAt c3 f3 wo3 d3 (fun μ4 => n.nx env μ4) n.ex env μ3) n.ex env μ2) n.ex env μ1) n.ex
theorem px_par3F {p1 p2 p3 pt pv : Pos} {kt kv} (hK : X.K = f.c.K) (hcl : X.calm = true) (h1 : ∀ cn ∈ c1, FldOk f.c f1 cn) (h2 : ∀ cn ∈ c2, FldOk f.c f2 cn) (h3 : ∀ cn ∈ c3, FldOk f.c f3 cn) (ho1 : PX X f W o1 wo1) (ho2 : PX X f W o2 wo2) (ho3 : PX X f W o3 wo3) (ha : PXA X f W es wr)
    (hs : swapsWithSole [.Tuple [.Attribute o1 f1 p1, .Attribute o2 f2 p2, .Attribute o3 f3 p3] kt pt] (.Tuple es kv pv) pos.line X.env = pure false := by rfl) (hw : swappedStores [.Tuple [.Attribute o1 f1 p1, .Attribute o2 f2 p2, .Attribute o3 f3 p3] kt pt] (.Tuple es kv pv) X.env = pure none := by rfl)
    (hh1 : (assignEach [.Tuple [.Attribute o1 f1 p1, .Attribute o2 f2 p2, .Attribute o3 f3 p3] kt pt] X.env).map (·.2) = [assign (.Tuple [.Attribute o1 f1 p1, .Attribute o2 f2 p2, .Attribute o3 f3 p3] kt pt) X.env] := by rfl)
    (g1 : (assignEach [.Attribute o1 f1 p1, .Attribute o2 f2 p2, .Attribute o3 f3 p3] X.env).map (·.2) = assign (.Attribute o1 f1 p1) X.env :: (assignEach [.Attribute o2 f2 p2, .Attribute o3 f3 p3] X.env).map (·.2) := by rfl)
    (g2 : (assignEach [.Attribute o2 f2 p2, .Attribute o3 f3 p3] X.env).map (·.2) = assign (.Attribute o2 f2 p2) X.env :: (assignEach [.Attribute o3 f3 p3] X.env).map (·.2) := by rfl)
    (g3 : (assignEach [.Attribute o3 f3 p3] X.env).map (·.2) = assign (.Attribute o3 f3 p3) X.env :: (assignEach [] X.env).map (·.2) := by rfl)
    (hn : (assignEach [.Attribute o1 f1 p1, .Attribute o2 f2 p2, .Attribute o3 f3 p3] X.env).length = 3 := by rfl) (hst : (assignEach [.Attribute o1 f1 p1, .Attribute o2 f2 p2, .Attribute o3 f3 p3] X.env).findIdx? (·.1) = none := by rfl) :
    PXS X f W (.Assign [.Tuple [.Attribute o1 f1 p1, .Attribute o2 f2 p2, .Attribute o3 f3 p3] kt pt] (.Tuple es kv pv) pos) (wPar3F c1 c2 c3 f1 f2 f3 wo1 wo2 wo3 wr) :=
  ps_imp (ps_asg (pe_tup (x1 := kv) ha) (pg_tup hcl (pgs_cons (pg_attr ho1) (pgs_cons (pg_attr ho2) (pgs_cons (pg_attr ho3) pgs_nil g3) g2) g1) hn hst) hs hw hh1) fun Dn σ H h => by
    obtain ⟨env, μ, F, n, rel, hw, ok⟩ := h
    refine ⟨env, μ, F, _, _, rel, hw, fun ds μ1 vs F1 H1 rel1 e1 r1 q1 => ?_, fun x μ2 cls d F2 H2 rel2 e2 xr q2 => ok.ex x env μ2 σ cls d F2 H2 rel2 e2 xr q2⟩
    obtain ⟨d1, d2, d3, rfl, q1⟩ := q1
    obtain ⟨v1, v2, v3, rfl, s1, s2, s3⟩ : ∃ v1 v2 v3, vs = [v1, v2, v3] ∧ Rep f.c F1 v1 d1 ∧ Rep f.c F1 v2 d2 ∧ Rep f.c F1 v3 d3 := by
      cases r1 with
      | cons a b => cases b with
        | cons a' b' => cases b' with
          | cons a'' b'' => cases b''; exact ⟨_, _, _, rfl, a, a', a''⟩
    refine ⟨by show 3 ≤ sizeLine; decide, fun pt hpt => ?_⟩
    have nt : ∀ ps, HO.tup [v1, v2, v3] ≠ .tbl ps := fun ps z => by cases z
    have rel2 := rel1.laid (o := .tup [v1, v2, v3]) hpt nt
    refine ⟨pt, [v1, v2, v3], rfl, SqT.of upd_same, rfl, v1, [v2, v3], rfl, ?_⟩
    refine gat_ok hK h1 rel2 s1 q1 (fun x μ2 cls d F2 H2 rel2 e2 xr q2 => ok.ex x env μ2 σ cls d F2 H2 rel2 (e1.trans e2) xr q2) fun μ3 F3 H3 rel3 e3 q3 => ?_
    refine ⟨v2, [v3], rfl, ?_⟩
    refine gat_ok hK h2 rel3 (Rep.mono e3 _ _ s2) q3 (fun x μ2 cls d F2 H2 rel2 e2 xr q2 => ok.ex x env μ2 σ cls d F2 H2 rel2 ((e1.trans e3).trans e2) xr q2) fun μ4 F4 H4 rel4 e4 q4 => ?_
    refine ⟨v3, [], rfl, ?_⟩
    refine gat_ok hK h3 rel4 (Rep.mono (e3.trans e4) _ _ s3) q4 (fun x μ2 cls d F2 H2 rel2 e2 xr q2 => ok.ex x env μ2 σ cls d F2 H2 rel2 (((e1.trans e3).trans e4).trans e2) xr q2) fun μ5 F5 H5 rel5 e5 q5 => ?_
    exact ⟨rfl, ok.nx _ _ σ F5 _ rel5 (((e1.trans e3).trans e4).trans e5) q5⟩
theorem mt1 {X : Cx} {c : Cfg} {m cn : Str} {sp : SpD} {dd : List D} (h : MethR X c m cn sp dd) : ∀ cn' sp' dd', (cn', sp', dd') ∈ ([(cn, sp, dd)] : MTab) → MethR X c m cn' sp' dd' := fun cn' sp' dd' hm => by
  rcases List.mem_cons.mp hm with e | e
  · cases e
    exact h
  · cases e
theorem mt2 {X : Cx} {c : Cfg} {m cn cn2 : Str} {sp sp2 : SpD} {dd dd2 : List D} (h : MethR X c m cn sp dd) (h2 : MethR X c m cn2 sp2 dd2) : ∀ cn' sp' dd', (cn', sp', dd') ∈ ([(cn, sp, dd), (cn2, sp2, dd2)] : MTab) → MethR X c m cn' sp' dd' := fun cn' sp' dd' hm => by
  rcases List.mem_cons.mp hm with e | e
  · cases e
    exact h
  · exact mt1 h2 cn' sp' dd' e
end
end PD
set_option Elab.async false
set_option linter.all false
set_option maxRecDepth 100000
set_option maxHeartbeats 4000000
/-! PD24: rows of cells, plainly. -/
namespace PD
open PySem PySem.Spec L2
/-! ### roots -/
def isRt (l : List Int) (s : Nat) : Bool := decide (l.length % s = 0) && decide ((List.replicate (l.length / s) (l.take s)).flatten = l)
def rtIx (l : List Int) : Option Nat := (List.range l.length).find? fun n => isRt l (n + 1)
def rootL (l : List Int) : List Int := match rtIx l with
  | some n => l.take (n + 1)
  | none => l
theorem rtIx_hit {l : List Int} {i : Nat} (hi : i < l.length) (h : isRt l (i + 1) = true) (hm : ∀ j < i, isRt l (j + 1) = false) : rtIx l = some i := by
  unfold rtIx
  rw [List.find?_range_eq_some]
  exact ⟨h, List.mem_range.mpr hi, fun j hj => by rw [hm j hj]; rfl⟩
theorem rootL_hit {l : List Int} {i : Nat} (hi : i < l.length) (h : isRt l (i + 1) = true) (hm : ∀ j < i, isRt l (j + 1) = false) : rootL l = l.take (i + 1) := by
  unfold rootL
  rw [rtIx_hit hi h hm]
theorem rootL_none {l : List Int} (hm : ∀ j < l.length, isRt l (j + 1) = false) : rootL l = l := by
  unfold rootL rtIx
  have : (List.range l.length).find? (fun n => isRt l (n + 1)) = none := by
    rw [List.find?_eq_none]
    intro j hj
    rw [hm j (List.mem_range.mp hj)]
    decide
  rw [this]
theorem rootL_len {l : List Int} : (rootL l).length ≤ l.length := by
  unfold rootL
  split
  · rw [List.length_take]
    omega
  · exact Nat.le_refl _
theorem rootL_ne {l : List Int} (h : l ≠ []) : rootL l ≠ [] := by
  have hl := List.length_pos_iff.mpr h
  unfold rootL
  split
  · intro e
    have := congrArg List.length e
    rw [List.length_take, List.length_nil] at this
    omega
  · exact h
theorem rootL_mem {l : List Int} {k : Int} (h : k ∈ rootL l) : k ∈ l := by
  unfold rootL at h
  split at h
  · exact List.mem_of_mem_take h
  · exact h
/-! ### cells -/
def wheelAt (w : List Int) (i : Int) : Int := w.getD (i % (w.length : Int)).toNat 0
def celAt (wl inn wr : List Int) (st p : Int) : Int := if p < st then wheelAt wl (p - st) else if p < st + inn.length then inn.getD (p - st).toNat 0 else wheelAt wr (p - (st + inn.length))
def endFrom (g : Int → Bool) : Nat → Int → Int
  | 0, e => e
  | k + 1, e => if g (e - 1) = true then endFrom g k (e - 1) else e
def begFrom (g : Int → Bool) : Nat → Int → Int
  | 0, b => b
  | k + 1, b => if g b = true then begFrom g k (b + 1) else b
def leastEnd (wl inn wr : List Int) (st : Int) : Option Int :=
  let e := endFrom (fun p => decide (celAt wl inn wr st p = wheelAt wr (p - (st + inn.length)))) (inn.length + wl.length + wr.length) (st + inn.length)
  if e > st - wl.length - wr.length then some e else none
def optI : Option Int → D
  | some e => .int e
  | none => .non
def greatBeg (wl inn wr : List Int) (st e : Int) : Int :=
  let b := begFrom (fun p => decide (celAt wl inn wr st p = wheelAt wl (p - st))) (e - st).toNat st
  if e < b then e else b
def wordC (wl inn wr : List Int) (st p : Int) (n : Nat) : List Int := (List.range n).map fun s => celAt wl inn wr st (p + (s : Nat))
def cellsD (wl inn wr : List Int) (st : Int) : D := .ins "Cells" ["wheel_left", "inner", "wheel_right", "start", "finish"] [.tup (wl.map .int), .tup (inn.map .int), .tup (wr.map .int), .int st, .int (st + inn.length)]
/-- a row's values: many, left, middle, right, at -/
structure RowV where
  many : Int
  left : List Int
  mid : List Int
  right : List Int
  at_ : Int
def RowV.d (r : RowV) : D := .ins "Row" ["left", "middle", "right", "many", "at"] [.tup (r.left.map .int), .tup (r.mid.map .int), .tup (r.right.map .int), .int r.many, .int r.at_]
/-- plain form, ahead of the bounds -/
def rowV (m : Int) (l mi r : List Int) (at_ : Int) : RowV :=
  let wl := rootL l
  let wr := rootL r
  match leastEnd wl mi wr at_ with
  | none =>
    let w := (List.range wr.length).map fun s => wheelAt wr ((s : Nat) - (at_ + mi.length))
    ⟨m, w, [], w, 0⟩
  | some e =>
    let b := greatBeg wl mi wr at_ e
    ⟨m, wordC wl mi wr at_ (b - wl.length) wl.length, wordC wl mi wr at_ b (e - b).toNat, wordC wl mi wr at_ e wr.length, b⟩
def RowV.ok (r : RowV) : Bool := decide (r.left.length ≤ 240) && decide (r.right.length ≤ 240) && decide (r.mid.length ≤ 200) && decide (-100000 ≤ r.at_) && decide (r.at_ ≤ 100000)
theorem wheel_at {w : List Int} (h : w ≠ []) (i : Int) : atI (w.map D.int) (i % ((w.map D.int).length : Nat)) = some (.int (wheelAt w i)) := by
  have hl : 0 < w.length := List.length_pos_iff.mpr h
  rw [List.length_map]
  have h0 := Int.emod_nonneg i (show (w.length : Int) ≠ 0 by omega)
  have h1 := Int.emod_lt_of_pos i (show (0 : Int) < w.length by omega)
  unfold wheelAt
  generalize i % (w.length : Int) = j at h0 h1 ⊢
  obtain ⟨k, rfl⟩ : ∃ k : Nat, j = k := ⟨j.toNat, by omega⟩
  rw [Int.toNat_natCast]
  have hk : k < w.length := by omega
  refine atI_nat ?_
  rw [List.getElem?_map, List.getD_eq_getElem?_getD, List.getElem?_eq_getElem hk]
  rfl
theorem list_at {w : List Int} {j : Int} (h0 : 0 ≤ j) (h1 : j < w.length) : atI (w.map D.int) j = some (.int (w.getD j.toNat 0)) := by
  obtain ⟨k, rfl⟩ : ∃ k : Nat, j = k := ⟨j.toNat, by omega⟩
  rw [Int.toNat_natCast]
  have hk : k < w.length := by omega
  refine atI_nat ?_
  rw [List.getElem?_map, List.getD_eq_getElem?_getD, List.getElem?_eq_getElem hk]
  rfl
section
variable {μ : Mu} {wl inn wr : List Int} {st : Int} {k : D → Prop} {cns : List Str} {r : RowV}
theorem cf_wl (h : ("Cells" : Str) ∈ cns) (q : k (.tup (wl.map .int))) : fldAt cns "wheel_left" μ (cellsD wl inn wr st) k := fld_ins h rfl q
theorem cf_in (h : ("Cells" : Str) ∈ cns) (q : k (.tup (inn.map .int))) : fldAt cns "inner" μ (cellsD wl inn wr st) k := fld_ins h rfl q
theorem cf_wr (h : ("Cells" : Str) ∈ cns) (q : k (.tup (wr.map .int))) : fldAt cns "wheel_right" μ (cellsD wl inn wr st) k := fld_ins h rfl q
theorem cf_st (h : ("Cells" : Str) ∈ cns) (q : k (.int st)) : fldAt cns "start" μ (cellsD wl inn wr st) k := fld_ins h rfl q
theorem cf_fin (h : ("Cells" : Str) ∈ cns) (q : k (.int (st + inn.length))) : fldAt cns "finish" μ (cellsD wl inn wr st) k := fld_ins h rfl q
theorem rf_left (h : ("Row" : Str) ∈ cns) (q : k (.tup (r.left.map .int))) : fldAt cns "left" μ r.d k := fld_ins h rfl q
theorem rf_mid (h : ("Row" : Str) ∈ cns) (q : k (.tup (r.mid.map .int))) : fldAt cns "middle" μ r.d k := fld_ins h rfl q
theorem rf_right (h : ("Row" : Str) ∈ cns) (q : k (.tup (r.right.map .int))) : fldAt cns "right" μ r.d k := fld_ins h rfl q
theorem rf_many (h : ("Row" : Str) ∈ cns) (q : k (.int r.many)) : fldAt cns "many" μ r.d k := fld_ins h rfl q
theorem rf_at (h : ("Row" : Str) ∈ cns) (q : k (.int r.at_)) : fldAt cns "at" μ r.d k := fld_ins h rfl q
end
theorem in1 {s : Str} {l : List Str} : s ∈ s :: l := List.mem_cons_self ..
theorem in2 {s t : Str} {l : List Str} : s ∈ t :: s :: l := List.mem_cons_of_mem _ (List.mem_cons_self ..)
/-! ### how far they run -/
theorem endFrom_eq {g : Int → Bool} : ∀ {k : Nat} {e : Int} {j : Nat}, j ≤ k → (∀ i : Nat, i < j → g (e - 1 - i) = true) → (j = k ∨ g (e - 1 - j) = false) → endFrom g k e = e - j
  | 0, e, j, hj, _, _ => by
    have : j = 0 := by omega
    subst this
    show e = e - ((0 : Nat) : Int)
    omega
  | k + 1, e, 0, _, _, hs => by
    rcases hs with hs | hs
    · cases hs
    · show (if g (e - 1) = true then _ else e) = e - ((0 : Nat) : Int)
      have hs' : g (e - 1) = false := by
        rw [show e - 1 - ((0 : Nat) : Int) = e - 1 by omega] at hs
        exact hs
      rw [hs']
      show e = e - ((0 : Nat) : Int)
      omega
  | k + 1, e, j + 1, hj, h, hs => by
    have h0 := h 0 (by omega)
    rw [show e - 1 - ((0 : Nat) : Int) = e - 1 by omega] at h0
    show (if g (e - 1) = true then endFrom g k (e - 1) else e) = _
    rw [if_pos h0, endFrom_eq (j := j) (by omega) (fun i hi => by
      have := h (i + 1) (by omega)
      rw [show e - 1 - ((i + 1 : Nat) : Int) = e - 1 - 1 - i by omega] at this
      exact this) (by
      rcases hs with hs | hs
      · exact .inl (by omega)
      · refine .inr ?_
        rw [show e - 1 - ((j + 1 : Nat) : Int) = e - 1 - 1 - j by omega] at hs
        exact hs)]
    omega
theorem begFrom_eq {g : Int → Bool} : ∀ {k : Nat} {b : Int} {j : Nat}, j ≤ k → (∀ i : Nat, i < j → g (b + i) = true) → (j = k ∨ g (b + j) = false) → begFrom g k b = b + j
  | 0, b, j, hj, _, _ => by
    have : j = 0 := by omega
    subst this
    show b = b + ((0 : Nat) : Int)
    omega
  | k + 1, b, 0, _, _, hs => by
    rcases hs with hs | hs
    · cases hs
    · show (if g b = true then _ else b) = b + ((0 : Nat) : Int)
      have hs' : g b = false := by
        rw [show b + ((0 : Nat) : Int) = b by omega] at hs
        exact hs
      rw [hs']
      show b = b + ((0 : Nat) : Int)
      omega
  | k + 1, b, j + 1, hj, h, hs => by
    have h0 := h 0 (by omega)
    rw [show b + ((0 : Nat) : Int) = b by omega] at h0
    show (if g b = true then begFrom g k (b + 1) else b) = _
    rw [if_pos h0, begFrom_eq (j := j) (by omega) (fun i hi => by
      have := h (i + 1) (by omega)
      rw [show b + ((i + 1 : Nat) : Int) = b + 1 + i by omega] at this
      exact this) (by
      rcases hs with hs | hs
      · exact .inl (by omega)
      · refine .inr ?_
        rw [show b + ((j + 1 : Nat) : Int) = b + 1 + j by omega] at hs
        exact hs)]
    omega
/-- a word of signs below m, a tuple or a list -/
def sgOf (x : D) (m : Int) : Bool := match x.seq with
  | some l => signsOk (.tup l) m
  | none => false
theorem cutD_lo {l : List D} {k : Nat} (h : k ≤ l.length) : cutD l (some (k : Int)) none = l.drop k := by
  unfold cutD
  rw [HT.sIx_nat, HT.sIx_none, Nat.min_eq_left h, List.take_of_length_le (by rw [List.length_drop]; omega)]
theorem cutD_hi {l : List D} {k : Nat} (h : k ≤ l.length) : cutD l none (some (k : Int)) = l.take k := by
  unfold cutD
  rw [HT.sIx_nat, HT.sIx_none, Nat.min_eq_left h, List.drop_zero, Nat.sub_zero]
theorem endFrom_yes {g : Int → Bool} {k : Nat} {e : Int} (h : g (e - 1) = true) : endFrom g (k + 1) e = endFrom g k (e - 1) := if_pos h
theorem endFrom_no {g : Int → Bool} {k : Nat} {e : Int} (h : g (e - 1) = false) : endFrom g (k + 1) e = e := if_neg (by rw [h]; decide)
theorem begFrom_yes {g : Int → Bool} {k : Nat} {b : Int} (h : g b = true) : begFrom g (k + 1) b = begFrom g k (b + 1) := if_pos h
theorem begFrom_no {g : Int → Bool} {k : Nat} {b : Int} (h : g b = false) : begFrom g (k + 1) b = b := if_neg (by rw [h]; decide)
theorem sgOf_ints {x : D} {m : Int} (h : sgOf x m = true) : ∃ ks : List Int, x.seq = some (ks.map .int) ∧ Signs m ks := by
  unfold sgOf at h
  cases e : x.seq with
  | none => rw [e] at h; cases h
  | some l =>
    rw [e] at h
    obtain ⟨ks, ek, hk⟩ := signsOk_ints (x := .tup l) h
    exact ⟨ks, by rw [D.tup.inj ek], hk⟩
theorem sgOf_of {x : D} {m : Int} {ks : List Int} (hx : x.seq = some (ks.map .int)) (hk : Signs m ks) : sgOf x m = true := by
  unfold sgOf
  rw [hx]
  exact signsOk_of hk
theorem dLen_seq {x : D} {l : List D} {Q : R → Prop} (hx : x.seq = some l) (h : Q (.fz (.int l.length))) : dLen x Q := by
  cases x <;> cases hx <;> exact h
theorem dTuple_seq {x : D} {l : List D} {Q : R → Prop} (hx : x.seq = some l) (h : Q (.fz (.tup l))) : dTuple x Q := by
  cases x <;> cases hx <;> exact h
theorem endFrom_le {g : Int → Bool} : ∀ {k : Nat} {e : Int}, endFrom g k e ≤ e ∧ e - k ≤ endFrom g k e
  | 0, e => ⟨Int.le_refl _, by show e - ((0 : Nat) : Int) ≤ e; omega⟩
  | k + 1, e => by
    cases h : g (e - 1) with
    | true =>
      rw [endFrom_yes h]
      have := endFrom_le (g := g) (k := k) (e := e - 1)
      omega
    | false =>
      rw [endFrom_no h]
      omega
theorem begFrom_ge {g : Int → Bool} : ∀ {k : Nat} {b : Int}, b ≤ begFrom g k b
  | 0, b => Int.le_refl _
  | k + 1, b => by
    cases h : g b with
    | true =>
      rw [begFrom_yes h]
      have := begFrom_ge (g := g) (k := k) (b := b + 1)
      omega
    | false =>
      rw [begFrom_no h]
      omega
theorem leastEnd_le {wl inn wr : List Int} {st e : Int} (h : leastEnd wl inn wr st = some e) : e ≤ st + inn.length := by
  unfold leastEnd at h
  dsimp only at h
  split at h
  · cases h
    exact endFrom_le.1
  · cases h
theorem greatBeg_at {wl inn wr : List Int} {st e : Int} : greatBeg wl inn wr st e ≤ e ∧ (st ≤ greatBeg wl inn wr st e ∨ greatBeg wl inn wr st e = e) := by
  unfold greatBeg
  have := begFrom_ge (g := fun p => decide (celAt wl inn wr st p = wheelAt wl (p - st))) (k := (e - st).toNat) (b := st)
  dsimp only
  split <;> omega
theorem wordC_len {wl inn wr : List Int} {st p : Int} {n : Nat} : (wordC wl inn wr st p n).length = n := by
  unfold wordC
  rw [List.length_map, List.length_range]
/-- a row's fields -/
def rowF (v : RowV) : List (Str × D) := [("left", .tup (v.left.map .int)), ("middle", .tup (v.mid.map .int)), ("right", .tup (v.right.map .int)), ("many", .int v.many), ("at", .int v.at_)]
theorem rowF_d (v : RowV) : D.ins "Row" ((rowF v).map (·.1)) ((rowF v).map (·.2)) = v.d := rfl
def rowBad (l mi r : D) (m : Int) : Prop := sgOf l m = false ∨ sgOf mi m = false ∨ sgOf r m = false ∨ l.seq = some [] ∨ r.seq = some []
theorem ok_no {v : RowV} (h : 240 < v.left.length ∨ 240 < v.right.length ∨ 200 < v.mid.length ∨ v.at_ < -100000 ∨ 100000 < v.at_) : v.ok = false := by
  cases e : v.ok with
  | false => rfl
  | true =>
    unfold RowV.ok at e
    simp only [Bool.and_eq_true, decide_eq_true_eq] at e
    omega
theorem ok_yes {v : RowV} (h1 : v.left.length ≤ 240) (h2 : v.right.length ≤ 240) (h3 : v.mid.length ≤ 200) (h4 : -100000 ≤ v.at_ ∧ v.at_ ≤ 100000) : v.ok = true := by
  unfold RowV.ok
  simp only [Bool.and_eq_true, decide_eq_true_eq]
  omega
theorem seq_cases {x : D} {l : List D} (h : x.seq = some l) : x = .tup l ∨ x = .lst l := by
  cases x <;> cases h
  · exact .inl rfl
  · exact .inr rfl
theorem rowV_none {m st : Int} {wl inn wr : List Int} (ee : leastEnd (rootL wl) inn (rootL wr) st = none) : rowV m wl inn wr st = ⟨m, (List.range (rootL wr).length).map fun s => wheelAt (rootL wr) ((s : Nat) - (st + inn.length)), [], (List.range (rootL wr).length).map fun s => wheelAt (rootL wr) ((s : Nat) - (st + inn.length)), 0⟩ := by
  unfold rowV
  dsimp only
  rw [ee]
theorem rowV_some {m st e : Int} {wl inn wr : List Int} (ee : leastEnd (rootL wl) inn (rootL wr) st = some e) : rowV m wl inn wr st = ⟨m, wordC (rootL wl) inn (rootL wr) st (greatBeg (rootL wl) inn (rootL wr) st e - (rootL wl).length) (rootL wl).length, wordC (rootL wl) inn (rootL wr) st (greatBeg (rootL wl) inn (rootL wr) st e) (e - greatBeg (rootL wl) inn (rootL wr) st e).toNat, wordC (rootL wl) inn (rootL wr) st e (rootL wr).length, greatBeg (rootL wl) inn (rootL wr) st e⟩ := by
  unfold rowV
  dsimp only
  rw [ee]
end PD
set_option Elab.async false
set_option linter.all false
set_option maxRecDepth 100000
set_option maxHeartbeats 4000000
/-! PD25: roots and plain rows of some forms. -/
namespace PD
open PySem PySem.Spec L2
theorem rep_flat_at {α : Type} {w : List α} : ∀ {k i : Nat}, i < k * w.length → (List.replicate k w).flatten[i]? = w[i % w.length]?
  | 0, i, h => by omega
  | k + 1, i, h => by
    rw [List.replicate_succ, List.flatten_cons]
    rw [Nat.add_mul, Nat.one_mul] at h
    by_cases h1 : i < w.length
    · rw [List.getElem?_append_left h1, Nat.mod_eq_of_lt h1]
    · rw [List.getElem?_append_right (by omega), rep_flat_at (by omega), ← Nat.mod_eq_sub_mod (by omega)]
theorem rt_period {l : List Int} {s : Nat} (hs : 0 < s) (h : isRt l s = true) {i : Nat} (hi : i < l.length) : l[i]? = l[i % s]? := by
  unfold isRt at h
  rw [Bool.and_eq_true, decide_eq_true_eq, decide_eq_true_eq] at h
  obtain ⟨h1, h2⟩ := h
  have hd := Nat.div_add_mod l.length s
  have hle : s ≤ l.length := by
    apply Nat.le_of_not_lt
    intro hc
    rw [Nat.mod_eq_of_lt hc] at h1
    omega
  have hw : (l.take s).length = s := by rw [List.length_take]; omega
  have key : ∀ m : List Int, m = l → m[i]? = l[i]? := fun m e => by rw [e]
  have e1 := key _ h2
  rw [rep_flat_at (by rw [hw, Nat.mul_comm]; omega), hw] at e1
  rw [← e1, List.getElem?_take, if_pos (Nat.mod_lt _ hs)]
/-- 0 .. 0 1 -/
def endW (n : Nat) : List Int := List.replicate n 0 ++ [1]
theorem endW_len {n : Nat} : (endW n).length = n + 1 := by
  unfold endW
  rw [List.length_append, List.length_replicate]
  rfl
theorem endW_at {n i : Nat} (h : i ≤ n) : (endW n)[i]? = some (if i = n then 1 else 0) := by
  unfold endW
  by_cases h1 : i < n
  · rw [List.getElem?_append_left (by rw [List.length_replicate]; exact h1), List.getElem?_replicate, if_pos h1, if_neg (by omega)]
  · have : i = n := by omega
    subst this
    rw [List.getElem?_append_right (by rw [List.length_replicate]; exact Nat.le_refl _), List.length_replicate, Nat.sub_self, if_pos rfl]
    rfl
theorem endW_ne {n : Nat} : endW n ≠ [] := fun e => by
  have := congrArg List.length e
  rw [endW_len, List.length_nil] at this
  omega
theorem endW_root {n : Nat} (hn : 1 ≤ n) : rootL (endW n) = endW n := by
  have full : isRt (endW n) (n + 1) = true := by
    unfold isRt
    rw [endW_len, Nat.mod_self, Nat.div_self (by omega), decide_eq_true rfl, Bool.true_and, decide_eq_true_eq]
    show (List.replicate 1 ((endW n).take (n + 1))).flatten = endW n
    rw [List.take_of_length_le (by rw [endW_len]; exact Nat.le_refl _)]
    simp [List.replicate]
  have less : ∀ j < n, isRt (endW n) (j + 1) = false := by
    intro j hj
    cases e : isRt (endW n) (j + 1) with
    | false => rfl
    | true =>
      have hp := rt_period (by omega) e (i := n) (by rw [endW_len]; omega)
      have hlt : n % (j + 1) < j + 1 := Nat.mod_lt _ (by omega)
      rw [endW_at (Nat.le_refl _), endW_at (by omega), if_pos rfl, if_neg (by omega)] at hp
      cases hp
  rw [rootL_hit (by rw [endW_len]; omega) full less, List.take_of_length_le (by rw [endW_len]; exact Nat.le_refl _)]
theorem endW_wheel {n : Nat} {i : Int} : wheelAt (endW n) i = if i % ((n : Int) + 1) = n then 1 else 0 := by
  unfold wheelAt
  rw [endW_len]
  have h0 := Int.emod_nonneg i (show ((n + 1 : Nat) : Int) ≠ 0 by omega)
  have h1 := Int.emod_lt_of_pos i (show (0 : Int) < ((n + 1 : Nat) : Int) by omega)
  have e : ((n + 1 : Nat) : Int) = (n : Int) + 1 := by omega
  rw [e] at h0 h1 ⊢
  generalize i % ((n : Int) + 1) = j at h0 h1 ⊢
  rw [List.getD_eq_getElem?_getD, endW_at (by omega)]
  by_cases h2 : j = n
  · rw [if_pos h2, if_pos (by omega)]
    rfl
  · rw [if_neg h2, if_neg (by omega)]
    rfl
theorem wheel_0 {i : Int} : wheelAt [0] i = 0 := by
  unfold wheelAt
  show ([0] : List Int).getD (i % ((1 : Nat) : Int)).toNat 0 = 0
  rw [show ((1 : Nat) : Int) = 1 from rfl, Int.emod_one]
  rfl
theorem root_0 : rootL [0] = [0] := by decide
theorem root_00 : rootL [0, 0] = [0] := by decide
theorem root_01 : rootL [0, 1] = [0, 1] := by decide
theorem celAt_l {wl inn wr : List Int} {st p : Int} (h : p < st) : celAt wl inn wr st p = wheelAt wl (p - st) := if_pos h
theorem celAt_m {wl inn wr : List Int} {st : Int} {i : Nat} (h : i < inn.length) : celAt wl inn wr st (st + i) = inn.getD i 0 := by
  unfold celAt
  rw [if_neg (by omega), if_pos (by omega), show st + (i : Int) - st = i by omega, Int.toNat_natCast]
theorem leastEnd_some {wl inn wr : List Int} {st : Int} (j : Nat) (hj : j < inn.length + wl.length + wr.length) (h : ∀ i : Nat, i < j → celAt wl inn wr st (st + inn.length - 1 - i) = wheelAt wr (-1 - i))
    (hs : celAt wl inn wr st (st + inn.length - 1 - j) ≠ wheelAt wr (-1 - j)) : leastEnd wl inn wr st = some (st + inn.length - j) := by
  unfold leastEnd
  dsimp only
  rw [endFrom_eq (j := j) (by omega) (fun i hi => by
    rw [show st + (inn.length : Int) - 1 - i - (st + inn.length) = -1 - i by omega]
    exact decide_eq_true (h i hi)) (.inr (by
    rw [show st + (inn.length : Int) - 1 - j - (st + inn.length) = -1 - j by omega]
    exact decide_eq_false hs))]
  rw [if_pos (by omega)]
theorem leastEnd_no {wl inn wr : List Int} {st : Int} (h : ∀ i : Nat, i < inn.length + wl.length + wr.length → celAt wl inn wr st (st + inn.length - 1 - i) = wheelAt wr (-1 - i)) : leastEnd wl inn wr st = none := by
  unfold leastEnd
  dsimp only
  rw [endFrom_eq (j := inn.length + wl.length + wr.length) (Nat.le_refl _) (fun i hi => by
    rw [show st + (inn.length : Int) - 1 - i - (st + inn.length) = -1 - i by omega]
    exact decide_eq_true (h i hi)) (.inl rfl)]
  rw [if_neg (by omega)]
theorem greatBeg_some {wl inn wr : List Int} {st e : Int} (j : Nat) (hj : st + j < e) (h : ∀ i : Nat, i < j → celAt wl inn wr st (st + i) = wheelAt wl i) (hs : celAt wl inn wr st (st + j) ≠ wheelAt wl j) : greatBeg wl inn wr st e = st + j := by
  unfold greatBeg
  dsimp only
  rw [begFrom_eq (j := j) (by omega) (fun i hi => by
    rw [show st + (i : Int) - st = i by omega]
    exact decide_eq_true (h i hi)) (.inr (by
    rw [show st + (j : Int) - st = j by omega]
    exact decide_eq_false hs))]
  rw [if_neg (by omega)]
theorem greatBeg_low {wl inn wr : List Int} {st e : Int} (h : e ≤ st) : greatBeg wl inn wr st e = e := by
  unfold greatBeg
  dsimp only
  rw [show (e - st).toNat = 0 by omega]
  show (if e < st then e else st) = e
  split <;> omega
/-- noughts on both sides -/
theorem zrow {m st : Int} {inn l r : List Int} {a b : Nat} (hl : rootL l = [0]) (hr : rootL r = [0]) (hab : a ≤ b) (hb : b < inn.length) (ha0 : inn.getD a 0 ≠ 0) (hb0 : inn.getD b 0 ≠ 0) (h1 : ∀ i < a, inn.getD i 0 = 0) (h2 : ∀ i, b < i → inn.getD i 0 = 0) :
    rowV m l inn r st = ⟨m, wordC [0] inn [0] st (st + a - 1) 1, wordC [0] inn [0] st (st + a) (b + 1 - a), wordC [0] inn [0] st (st + b + 1) 1, st + a⟩ := by
  have le : leastEnd [0] inn [0] st = some (st + b + 1) := by
    rw [leastEnd_some (inn.length - 1 - b) (by show _ < inn.length + 1 + 1; omega) (fun i hi => by
      rw [show st + (inn.length : Int) - 1 - i = st + ((inn.length - 1 - i : Nat) : Int) by omega, celAt_m (by omega), wheel_0, h2 _ (by omega)]) (by
      rw [show st + (inn.length : Int) - 1 - ((inn.length - 1 - b : Nat) : Int) = st + (b : Int) by omega, celAt_m hb, wheel_0]
      exact hb0)]
    congr 1
    omega
  have gb : greatBeg [0] inn [0] st (st + b + 1) = st + a := greatBeg_some a (by omega) (fun i hi => by rw [celAt_m (by omega), wheel_0, h1 i hi]) (by
    rw [celAt_m (by omega), wheel_0]
    exact ha0)
  have e := rowV_some (m := m) (st := st) (wl := l) (inn := inn) (wr := r) (e := st + b + 1) (by rw [hl, hr]; exact le)
  rw [hl, hr, gb] at e
  rw [e]
  have e3 : (st + (b : Int) + 1 - (st + a)).toNat = b + 1 - a := by omega
  rw [e3]
  rfl
theorem word_mid {wl inn wr : List Int} {st : Int} {a n : Nat} (h : a + n ≤ inn.length) : wordC wl inn wr st (st + a) n = (inn.drop a).take n := by
  unfold wordC
  apply List.ext_getElem?
  intro i
  rw [List.getElem?_map, List.getElem?_take]
  by_cases hi : i < n
  · rw [List.getElem?_range hi, if_pos hi, List.getElem?_drop, List.getElem?_eq_getElem (by omega)]
    show some (celAt wl inn wr st (st + a + (i : Nat))) = _
    rw [show st + (a : Int) + (i : Nat) = st + ((a + i : Nat) : Int) by omega, celAt_m (by omega), List.getD_eq_getElem?_getD, List.getElem?_eq_getElem (by omega)]
    rfl
  · rw [if_neg hi, List.getElem?_eq_none_iff.mpr (by rw [List.length_range]; omega)]
    rfl
/-- comes round everywhere -/
theorem round_row {m st : Int} {w : List Int} : leastEnd w [] w st = none := leastEnd_no fun i hi => by
  rw [celAt_l (by show st + ((0 : Nat) : Int) - 1 - i < st; omega)]
  congr 1
  show st + ((0 : Nat) : Int) - 1 - i - st = -1 - i
  omega
theorem ok_of {v : RowV} (h2 : v.right.length ≤ 240) (h3 : v.mid.length ≤ 200) (h4 : -100000 ≤ v.at_ ∧ v.at_ ≤ 100000) : v.ok = decide (v.left.length ≤ 240) := by
  by_cases c : v.left.length ≤ 240
  · rw [ok_yes c h2 h3 h4, decide_eq_true c]
  · rw [ok_no (.inl (by omega)), decide_eq_false c]
end PD
set_option Elab.async false
set_option linter.all false
set_option maxRecDepth 100000
set_option maxHeartbeats 4000000
/-! PD26: what k15's law draws, plainly. -/
namespace PD
open PySem PySem.Spec L2
def tw (n : Nat) : Str := if n ≤ 239 then "told" else "refused"
theorem eqok_tw {n : Nat} : eqok (.lst [.str (tw n), .str (tw n), .str (tw n)]) := by
  unfold tw
  split <;> exact ⟨by decide +kernel, by decide +kernel⟩
theorem eqv_tw {n : Nat} : eqv (.lst [.str (tw n), .str (tw n), .str (tw n)]) (.lst [.str (tw n), .str (tw n), .str (tw n)]) = true := by
  unfold tw
  split <;> decide +kernel
theorem eqok_bw : eqok (.tup [.str "refused", .str "BadWord"]) := ⟨by decide +kernel, by decide +kernel⟩
theorem eqv_bw : eqv (.tup [.str "refused", .str "BadWord"]) (.tup [.str "refused", .str "BadWord"]) = true := by decide +kernel
theorem eqok_s : eqok (.tup [.str "refused", .str "BadSigns"]) := ⟨by decide +kernel, by decide +kernel⟩
theorem eqv_s : eqv (.tup [.str "refused", .str "BadSigns"]) (.tup [.str "refused", .str "BadSigns"]) = true := by decide +kernel
theorem eqok_tl : eqok (.tup [.str "refused", .str "TooLong"]) := ⟨by decide +kernel, by decide +kernel⟩
theorem eqv_tl : eqv (.tup [.str "refused", .str "TooLong"]) (.tup [.str "refused", .str "TooLong"]) = true := by decide +kernel
theorem signs_0 {m : Int} (hm : 2 ≤ m) : Signs m [0] := fun k hk => by
  rw [List.mem_singleton.mp hk]
  omega
theorem signs_bits {m : Int} (hm : 2 ≤ m) {l : List Int} (h : ∀ k ∈ l, k = 0 ∨ k = 1) : Signs m l := fun k hk => by
  rcases h k hk with rfl | rfl <;> omega
theorem endW_bits {n : Nat} : ∀ k ∈ endW n, k = 0 ∨ k = 1 := fun k hk => by
  unfold endW at hk
  rcases List.mem_append.mp hk with q | q
  · exact .inl (List.mem_replicate.mp q).2
  · exact .inr (List.mem_singleton.mp q)
theorem rep_one {α : Type} (a : α) : ∀ n : Nat, (List.replicate n [a]).flatten = List.replicate n a
  | 0 => rfl
  | n + 1 => by rw [List.replicate_succ, List.flatten_cons, rep_one a n]; rfl
theorem endW_D {n : Nat} : (List.replicate n [D.int 0]).flatten ++ [D.int 1] = (endW n).map .int := by
  unfold endW
  rw [rep_one, List.map_append, List.map_replicate]
  rfl
/-- 1 0 .. 0 1 -/
def twoW (n : Nat) : List Int := 1 :: endW n
theorem twoW_at {n i : Nat} (h : i < n + 2) : (twoW n).getD i 0 = if i = 0 ∨ i = n + 1 then 1 else 0 := by
  unfold twoW
  rw [List.getD_eq_getElem?_getD]
  cases i with
  | zero => rfl
  | succ i =>
    rw [List.getElem?_cons_succ, endW_at (by omega)]
    by_cases h2 : i = n
    · rw [if_pos h2, if_pos (.inr (by omega))]; rfl
    · rw [if_neg h2, if_neg (by omega)]; rfl
theorem twoW_len {n : Nat} : (twoW n).length = n + 2 := by
  unfold twoW
  rw [List.length_cons, endW_len]
/-- 0 .. 0 1 0 .. 0 -/
def oneW (a b : Nat) : List Int := endW a ++ List.replicate b 0
theorem oneW_len {a b : Nat} : (oneW a b).length = a + 1 + b := by
  unfold oneW
  rw [List.length_append, endW_len, List.length_replicate]
theorem oneW_at {a b i : Nat} : (oneW a b).getD i 0 = if i = a then 1 else 0 := by
  unfold oneW
  rw [List.getD_eq_getElem?_getD]
  by_cases h1 : i ≤ a
  · rw [List.getElem?_append_left (by rw [endW_len]; omega), endW_at h1]
    rfl
  · rw [List.getElem?_append_right (by rw [endW_len]; omega), List.getElem?_replicate, if_neg (show ¬ i = a by omega)]
    split <;> rfl
theorem wheel_ok1 {m : Int} {n : Nat} (hn : 1 ≤ n) : (rowV m (endW n) [1, 1] [0] 0).ok = decide (n ≤ 239) := by
  have le : leastEnd (endW n) [1, 1] [0] 0 = some 2 := by
    have := leastEnd_some (wl := endW n) (inn := [1, 1]) (wr := [0]) (st := 0) 0 (by rw [endW_len]; show 0 < 2 + (n + 1) + 1; omega) (fun i hi => absurd hi (by omega)) (by
      rw [wheel_0]
      have e := celAt_m (wl := endW n) (inn := [1, 1]) (wr := [0]) (st := 0) (i := 1) (by decide)
      have e' : celAt (endW n) [1, 1] [0] 0 1 = 1 := e
      show celAt (endW n) [1, 1] [0] 0 1 ≠ 0
      rw [e']
      decide)
    exact this
  have gb : greatBeg (endW n) [1, 1] [0] 0 2 = 0 := by
    have := greatBeg_some (wl := endW n) (inn := [1, 1]) (wr := [0]) (st := 0) (e := 2) 0 (by decide) (fun i hi => absurd hi (by omega)) (by
      rw [endW_wheel, celAt_m (by decide)]
      rw [if_neg (by show ¬ (0 : Int) % ((n : Int) + 1) = n; rw [Int.zero_emod]; omega)]
      decide)
    exact this
  have e := rowV_some (m := m) (st := 0) (wl := endW n) (inn := [1, 1]) (wr := [0]) (e := 2) (by rw [endW_root hn, root_0]; exact le)
  rw [e, endW_root hn, root_0, gb, ok_of (by show (wordC _ _ _ _ _ _).length ≤ 240; rw [wordC_len]; decide) (by show (wordC _ _ _ _ _ _).length ≤ 200; rw [wordC_len]; decide) (show (-100000 : Int) ≤ 0 ∧ (0 : Int) ≤ 100000 by decide)]
  show decide ((wordC _ _ _ _ _ _).length ≤ 240) = _
  rw [wordC_len, endW_len]
  exact decide_eq_decide.mpr (by omega)
theorem wheel_ok2 {m : Int} {n : Nat} (hn : 1 ≤ n ∧ n ≤ 1000) : (rowV m [0] [1] (endW n) 3).ok = decide (n ≤ 239) := by
  have le : leastEnd [0] [1] (endW n) 3 = some ((3 : Int) - n) := by
    have := leastEnd_some (wl := [0]) (inn := [1]) (wr := endW n) (st := 3) (n + 1) (by rw [endW_len]; show n + 1 < 1 + 1 + (n + 1); omega) (fun i hi => by
      show celAt [0] [1] (endW n) 3 (3 + 1 - 1 - i) = _
      rw [endW_wheel]
      cases i with
      | zero =>
        have e := celAt_m (wl := [0]) (inn := [1]) (wr := endW n) (st := 3) (i := 0) (by decide)
        rw [show (3 : Int) + 1 - 1 - ((0 : Nat) : Int) = 3 + ((0 : Nat) : Int) from rfl, e]
        rw [if_pos (by
          rw [show (-1 : Int) - ((0 : Nat) : Int) = -1 from rfl, ← Int.add_emod_right (-1) ((n : Int) + 1), Int.emod_eq_of_lt (by omega) (by omega)]
          omega)]
        rfl
      | succ i =>
        rw [celAt_l (by omega), wheel_0, if_neg (by
          rw [← Int.add_emod_right (-1 - ((i + 1 : Nat) : Int)) ((n : Int) + 1), Int.emod_eq_of_lt (by omega) (by omega)]
          omega)]) (by
      show celAt [0] [1] (endW n) 3 (3 + 1 - 1 - ((n + 1 : Nat) : Int)) ≠ _
      rw [celAt_l (by omega), wheel_0, endW_wheel, if_pos (by
        rw [← Int.add_emod_right (-1 - ((n + 1 : Nat) : Int)) ((n : Int) + 1), ← Int.add_emod_right (-1 - ((n + 1 : Nat) : Int) + ((n : Int) + 1)) ((n : Int) + 1), Int.emod_eq_of_lt (by omega) (by omega)]
        omega)]
      decide)
    rw [this]
    congr 1
    show (3 : Int) + 1 - ((n + 1 : Nat) : Int) = 3 - n
    omega
  have gb : greatBeg [0] [1] (endW n) 3 ((3 : Int) - n) = (3 : Int) - n := greatBeg_low (by omega)
  have e := rowV_some (m := m) (st := 3) (wl := [0]) (inn := [1]) (wr := endW n) (e := (3 : Int) - n) (by rw [endW_root hn.1, root_0]; exact le)
  rw [e, endW_root hn.1, root_0, gb]
  by_cases c : n ≤ 239
  · rw [decide_eq_true c]
    refine ok_yes ?_ ?_ ?_ ⟨?_, ?_⟩
    · show (wordC _ _ _ _ _ _).length ≤ 240
      rw [wordC_len]
      decide
    · show (wordC _ _ _ _ _ _).length ≤ 240
      rw [wordC_len, endW_len]
      omega
    · show (wordC _ _ _ _ _ _).length ≤ 200
      rw [wordC_len]
      omega
    · show (-100000 : Int) ≤ 3 - n
      omega
    · show (3 : Int) - n ≤ 100000
      omega
  · rw [decide_eq_false c]
    refine ok_no (.inr (.inl ?_))
    show 240 < (wordC _ _ _ _ _ _).length
    rw [wordC_len, endW_len]
    omega
theorem wheel_ok3 {m st : Int} {n : Nat} (hn : 1 ≤ n) : (rowV m (endW n) [] (endW n) st).ok = decide (n ≤ 239) := by
  rw [rowV_none (by rw [endW_root hn]; exact round_row (m := m)), endW_root hn]
  by_cases c : n ≤ 239
  · rw [decide_eq_true c]
    refine ok_yes ?_ ?_ (show 0 ≤ 200 by decide) (show (-100000 : Int) ≤ 0 ∧ (0 : Int) ≤ 100000 by decide)
    · show (List.map _ (List.range (endW n).length)).length ≤ 240
      rw [List.length_map, List.length_range, endW_len]
      omega
    · show (List.map _ (List.range (endW n).length)).length ≤ 240
      rw [List.length_map, List.length_range, endW_len]
      omega
  · rw [decide_eq_false c]
    refine ok_no (.inl ?_)
    show 240 < (List.map _ (List.range (endW n).length)).length
    rw [List.length_map, List.length_range, endW_len]
    omega
/-- a row of noughts but for a middle -/
theorem two_row {m : Int} {n : Nat} : ∃ v, rowV m [0] (twoW n) [0] 2 = v ∧ v.mid = twoW n ∧ v.ok = decide (n + 2 ≤ 200) := by
  refine ⟨_, zrow (a := 0) (b := n + 1) root_0 root_0 (by omega) (by rw [twoW_len]; omega) (by rw [twoW_at (by omega), if_pos (.inl rfl)]; decide) (by rw [twoW_at (by omega), if_pos (.inr rfl)]; decide) (fun i hi => absurd hi (by omega)) (fun i hi => by
    rw [List.getD_eq_getElem?_getD, List.getElem?_eq_none_iff.mpr (by rw [twoW_len]; omega)]; rfl), ?_, ?_⟩
  · show wordC _ _ _ _ (2 + ((0 : Nat) : Int)) (n + 1 + 1 - 0) = _
    rw [word_mid (by rw [twoW_len]; omega), List.drop_zero, List.take_of_length_le (by rw [twoW_len]; omega)]
  · by_cases c : n + 2 ≤ 200
    · rw [decide_eq_true c]
      exact ok_yes (by show (wordC _ _ _ _ _ _).length ≤ 240; rw [wordC_len]; decide) (by show (wordC _ _ _ _ _ _).length ≤ 240; rw [wordC_len]; decide) (by show (wordC _ _ _ _ _ _).length ≤ 200; rw [wordC_len]; omega) (show (-100000 : Int) ≤ 2 + ((0 : Nat) : Int) ∧ (2 : Int) + ((0 : Nat) : Int) ≤ 100000 by decide)
    · rw [decide_eq_false c]
      refine ok_no (.inr (.inr (.inl ?_)))
      show 200 < (wordC _ _ _ _ _ _).length
      rw [wordC_len]
      omega
theorem one_row {m st : Int} {a b : Nat} {r : List Int} (hr : rootL r = [0]) (ha : (st + a) = 0) : ∃ v, rowV m [0] (oneW a b) r st = v ∧ v.mid = [1] ∧ v.at_ = 0 ∧ v.ok = true := by
  refine ⟨_, zrow (a := a) (b := a) root_0 hr (Nat.le_refl _) (by rw [oneW_len]; omega) (by rw [oneW_at, if_pos rfl]; decide) (by rw [oneW_at, if_pos rfl]; decide) (fun i hi => by rw [oneW_at, if_neg (by omega)]) (fun i hi => by rw [oneW_at, if_neg (by omega)]), ?_, ha, ?_⟩
  · show wordC _ _ _ _ (st + (a : Int)) (a + 1 - a) = _
    rw [show a + 1 - a = 1 by omega]
    unfold wordC
    show [celAt [0] (oneW a b) [0] st (st + a + ((0 : Nat) : Int))] = [1]
    rw [show st + (a : Int) + ((0 : Nat) : Int) = st + (a : Int) by omega, celAt_m (by rw [oneW_len]; omega), oneW_at, if_pos rfl]
  · refine ok_yes (by show (wordC _ _ _ _ _ _).length ≤ 240; rw [wordC_len]; decide) (by show (wordC _ _ _ _ _ _).length ≤ 240; rw [wordC_len]; decide) (by show (wordC _ _ _ _ _ _).length ≤ 200; rw [wordC_len]; omega) ?_
    show (-100000 : Int) ≤ st + a ∧ st + a ≤ 100000
    omega
theorem spot_row {m st : Int} : ∃ v, rowV m [0] [1] [0] st = v ∧ v.at_ = st ∧ v.ok = (decide (-100000 ≤ st) && decide (st ≤ 100000)) := by
  refine ⟨_, zrow (inn := [1]) (a := 0) (b := 0) root_0 root_0 (Nat.le_refl _) (by decide) (by decide) (by decide) (fun i hi => absurd hi (by omega)) (fun i hi => by
    rw [List.getD_eq_getElem?_getD, List.getElem?_eq_none_iff.mpr (by show 1 ≤ i; omega)]; rfl), ?_, ?_⟩
  · show st + ((0 : Nat) : Int) = st
    omega
  · cases c : (decide (-100000 ≤ st) && decide (st ≤ 100000)) with
    | true =>
      rw [Bool.and_eq_true, decide_eq_true_eq, decide_eq_true_eq] at c
      refine ok_yes (by show (wordC _ _ _ _ _ _).length ≤ 240; rw [wordC_len]; decide) (by show (wordC _ _ _ _ _ _).length ≤ 240; rw [wordC_len]; decide) (by show (wordC _ _ _ _ _ _).length ≤ 200; rw [wordC_len]; decide) ?_
      show (-100000 : Int) ≤ st + ((0 : Nat) : Int) ∧ st + ((0 : Nat) : Int) ≤ 100000
      omega
    | false =>
      rw [Bool.and_eq_false_iff, decide_eq_false_iff_not, decide_eq_false_iff_not] at c
      refine ok_no (.inr (.inr (.inr ?_)))
      show st + ((0 : Nat) : Int) < -100000 ∨ 100000 < st + ((0 : Nat) : Int)
      omega
theorem round_01 {m st : Int} : ∃ v, rowV m [0, 1] [] [0, 1] st = v ∧ v.at_ = 0 ∧ v.ok = true := by
  refine ⟨_, rowV_none (by rw [root_01]; exact round_row (m := m)), rfl, ?_⟩
  rw [root_01]
  exact ok_yes (by show (List.map _ (List.range 2)).length ≤ 240; rw [List.length_map]; decide) (by show (List.map _ (List.range 2)).length ≤ 240; rw [List.length_map]; decide) (show 0 ≤ 200 by decide) (show (-100000 : Int) ≤ 0 ∧ (0 : Int) ≤ 100000 by decide)
end PD
set_option Elab.async false
set_option linter.all false
set_option maxRecDepth 100000
set_option maxHeartbeats 4000000
/-! PD27: what comes round; a row's cells by its plain form. -/
namespace PD
open PySem PySem.Spec L2
/-! ### what comes round -/
def Per (f : Int → Int) (p : Int) : Prop := ∀ x, f (x + p) = f x
theorem Per.mul {f : Int → Int} {p : Int} (h : Per f p) : ∀ (k : Nat) (x : Int), f (x + p * k) = f x
  | 0, x => by rw [show x + p * ((0 : Nat) : Int) = x by simp]
  | k + 1, x => by
    rw [show x + p * ((k + 1 : Nat) : Int) = (x + p * k) + p by rw [Int.natCast_add, Int.mul_add]; simp; omega, h, h.mul k]
theorem Per.same {f : Int → Int} {p : Int} (h : Per f p) {x y : Int} (e : p ∣ (x - y)) : f x = f y := by
  obtain ⟨k, hk⟩ := e
  rcases Int.le_total 0 k with h0 | h0
  · obtain ⟨n, rfl⟩ : ∃ n : Nat, k = n := ⟨k.toNat, by omega⟩
    rw [show x = y + p * (n : Int) by omega]
    exact h.mul n y
  · obtain ⟨n, hn⟩ : ∃ n : Nat, k = -(n : Int) := ⟨(-k).toNat, by omega⟩
    subst hn
    rw [Int.mul_neg] at hk
    rw [show y = x + p * (n : Int) by omega]
    exact (h.mul n x).symm
theorem mod_spot (a x : Int) {p : Int} (hp : 0 < p) : ∃ y, a ≤ y ∧ y < a + p ∧ p ∣ (x - y) := by
  have h0 := Int.emod_nonneg (x - a) (show p ≠ 0 by omega)
  have h1 := Int.emod_lt_of_pos (x - a) hp
  refine ⟨a + (x - a) % p, by omega, by omega, ⟨(x - a) / p, ?_⟩⟩
  have := Int.mul_ediv_add_emod (x - a) p
  omega
theorem agree {f g : Int → Int} {p q a : Int} (hf : Per f p) (hg : Per g q) (hp : 0 < p) (hq : 0 < q) (h : ∀ x, a ≤ x → x < a + p + q → f x = g x) : ∀ x, f x = g x := by
  have gp : Per g p := by
    intro x
    obtain ⟨y, h1, h2, h3⟩ := mod_spot a x hq
    have e1 : g (x + p) = g (y + p) := hg.same (by rw [show x + p - (y + p) = x - y by omega]; exact h3)
    have e2 : g x = g y := hg.same h3
    rw [e1, e2, ← h (y + p) (by omega) (by omega), hf, h y (by omega) (by omega)]
  intro x
  obtain ⟨y, h1, h2, h3⟩ := mod_spot a x hp
  rw [hf.same h3, gp.same h3]
  exact h y h1 (by omega)
theorem wheel_per {w : List Int} (c : Int) : Per (fun p => wheelAt w (p - c)) w.length := by
  intro x
  show wheelAt w (x + w.length - c) = wheelAt w (x - c)
  unfold wheelAt
  rw [show x + (w.length : Int) - c = x - c + w.length by omega, Int.add_emod_right]
theorem wheel_get {w : List Int} {n : Nat} {i : Int} {f : Nat → Int} (hw : w = (List.range n).map f) (hn : 0 < n) : wheelAt w i = f (i % (n : Int)).toNat := by
  subst hw
  have h0 := Int.emod_nonneg i (show (n : Int) ≠ 0 by omega)
  have h1 := Int.emod_lt_of_pos i (show (0 : Int) < n by omega)
  unfold wheelAt
  rw [List.length_map, List.length_range, List.getD_eq_getElem?_getD, List.getElem?_map, List.getElem?_range (by omega)]
  rfl
theorem wheel_root {w : List Int} (h : w ≠ []) (i : Int) : wheelAt (rootL w) i = wheelAt w i := by
  have hl := List.length_pos_iff.mpr h
  cases e : rtIx w with
  | none =>
    unfold rootL
    rw [e]
  | some n =>
    have hr : rootL w = w.take (n + 1) := by
      unfold rootL
      rw [e]
    unfold rtIx at e
    rw [List.find?_range_eq_some] at e
    obtain ⟨e1, e2, _⟩ := e
    have hn := List.mem_range.mp e2
    have hd : w.length % (n + 1) = 0 := by
      unfold isRt at e1
      rw [Bool.and_eq_true, decide_eq_true_eq] at e1
      exact e1.1
    have hw : (w.take (n + 1)).length = n + 1 := by rw [List.length_take]; omega
    unfold wheelAt
    rw [hr, hw, List.getD_eq_getElem?_getD, List.getD_eq_getElem?_getD]
    have h0 := Int.emod_nonneg i (show (w.length : Int) ≠ 0 by omega)
    have h1 := Int.emod_lt_of_pos i (show (0 : Int) < w.length by omega)
    have h2 := Int.emod_nonneg i (show ((n + 1 : Nat) : Int) ≠ 0 by omega)
    have h3 := Int.emod_lt_of_pos i (show (0 : Int) < ((n + 1 : Nat) : Int) by omega)
    have dv : ((n + 1 : Nat) : Int) ∣ (w.length : Int) := Int.natCast_dvd_natCast.mpr (Nat.dvd_of_mod_eq_zero hd)
    have em : i % (w.length : Int) % ((n + 1 : Nat) : Int) = i % ((n + 1 : Nat) : Int) := Int.emod_emod_of_dvd i dv
    rw [rt_period (by omega) e1 (i := (i % (w.length : Int)).toNat) (by omega)]
    have e3 : (i % (w.length : Int)).toNat % (n + 1) = (i % ((n + 1 : Nat) : Int)).toNat := by
      rw [← em]
      have : ((i % (w.length : Int)).toNat : Int) = i % (w.length : Int) := by omega
      have e4 : (((i % (w.length : Int)).toNat % (n + 1) : Nat) : Int) = i % (w.length : Int) % ((n + 1 : Nat) : Int) := by rw [Int.natCast_emod, this]
      omega
    rw [e3, List.getElem?_take, if_pos (by omega)]
theorem celAt_root {l mi r : List Int} {st : Int} (hl : l ≠ []) (hr : r ≠ []) (p : Int) : celAt (rootL l) mi (rootL r) st p = celAt l mi r st p := by
  unfold celAt
  rw [wheel_root hl, wheel_root hr]
/-! ### where it comes round from -/
theorem endFrom_all {g : Int → Bool} : ∀ {k : Nat} {e : Int}, endFrom g k e = e - k → ∀ i : Nat, i < k → g (e - 1 - i) = true
  | 0, _, _, _, hi => absurd hi (by omega)
  | k + 1, e, h, i, hi => by
    cases hg : g (e - 1) with
    | false =>
      rw [endFrom_no hg] at h
      omega
    | true =>
      rw [endFrom_yes hg] at h
      cases i with
      | zero => rw [show e - 1 - ((0 : Nat) : Int) = e - 1 by omega]; exact hg
      | succ i =>
        have := endFrom_all (g := g) (k := k) (e := e - 1) (by omega) i (by omega)
        rw [show e - 1 - ((i + 1 : Nat) : Int) = e - 1 - 1 - i by omega]
        exact this
theorem endFrom_is {g : Int → Bool} : ∀ {k : Nat} {e : Int}, (∀ p, endFrom g k e ≤ p → p < e → g p = true) ∧ (endFrom g k e ≠ e - k → g (endFrom g k e - 1) = false)
  | 0, e => ⟨fun p h1 h2 => by
      have h1 : e ≤ p := h1
      omega, fun h => absurd (show endFrom g 0 e = e - ((0 : Nat) : Int) by show e = e - ((0 : Nat) : Int); omega) h⟩
  | k + 1, e => by
    cases hg : g (e - 1) with
    | false =>
      rw [endFrom_no hg]
      exact ⟨fun p h1 h2 => by omega, fun _ => hg⟩
    | true =>
      rw [endFrom_yes hg]
      obtain ⟨i1, i2⟩ := endFrom_is (g := g) (k := k) (e := e - 1)
      refine ⟨fun p h1 h2 => ?_, fun h => i2 (by omega)⟩
      by_cases hp : p = e - 1
      · rw [hp]; exact hg
      · exact i1 p h1 (by omega)
theorem begFrom_is {g : Int → Bool} : ∀ {k : Nat} {b : Int}, (∀ p, b ≤ p → p < begFrom g k b → g p = true) ∧ (begFrom g k b ≠ b + k → g (begFrom g k b) = false) ∧ begFrom g k b ≤ b + k
  | 0, b => ⟨fun p h1 h2 => by
      have h2 : p < b := h2
      omega, fun h => absurd (show begFrom g 0 b = b + ((0 : Nat) : Int) by show b = b + ((0 : Nat) : Int); omega) h, by show b ≤ b + ((0 : Nat) : Int); omega⟩
  | k + 1, b => by
    cases hg : g b with
    | false =>
      rw [begFrom_no hg]
      exact ⟨fun p h1 h2 => by omega, fun _ => hg, by omega⟩
    | true =>
      rw [begFrom_yes hg]
      obtain ⟨i1, i2, i3⟩ := begFrom_is (g := g) (k := k) (b := b + 1)
      refine ⟨fun p h1 h2 => ?_, fun h => i2 (by omega), by omega⟩
      by_cases hp : p = b
      · rw [hp]; exact hg
      · exact i1 p (by omega) h2
section
variable {wl inn wr : List Int} {st : Int}
theorem celAt_right {p : Int} (h : st + inn.length ≤ p) : celAt wl inn wr st p = wheelAt wr (p - (st + inn.length)) := by
  unfold celAt
  rw [if_neg (by omega), if_neg (by omega)]
/-- it comes round everywhere -/
theorem round_all (hl : wl ≠ []) (hr : wr ≠ []) (h : leastEnd wl inn wr st = none) (p : Int) : celAt wl inn wr st p = wheelAt wr (p - (st + inn.length)) := by
  have p1 := List.length_pos_iff.mpr hl
  have p2 := List.length_pos_iff.mpr hr
  unfold leastEnd at h
  dsimp only at h
  split at h
  · cases h
  rename_i hc
  have hle := endFrom_le (g := fun p => decide (celAt wl inn wr st p = wheelAt wr (p - (st + inn.length)))) (k := inn.length + wl.length + wr.length) (e := st + inn.length)
  have near : ∀ p, st - wl.length - wr.length ≤ p → p < st + inn.length → celAt wl inn wr st p = wheelAt wr (p - (st + inn.length)) := fun p h1 h2 => by
    have := (endFrom_is (g := fun p => decide (celAt wl inn wr st p = wheelAt wr (p - (st + inn.length)))) (k := inn.length + wl.length + wr.length) (e := st + inn.length)).1 p (by omega) h2
    exact of_decide_eq_true this
  have ag := agree (f := fun p => wheelAt wl (p - st)) (g := fun p => wheelAt wr (p - (st + inn.length))) (a := st - wl.length - wr.length) (wheel_per st) (wheel_per (st + inn.length)) (by omega) (by omega) (fun x h1 h2 => by
    have := near x h1 (by omega)
    rw [celAt_l (by omega)] at this
    exact this)
  by_cases h1 : st + inn.length ≤ p
  · exact celAt_right h1
  · by_cases h2 : p < st
    · rw [celAt_l h2]
      exact ag p
    · exact near p (by omega) (by omega)
structure IsEnd (c R : Int → Int) (e : Int) : Prop where
  on : ∀ p, e ≤ p → c p = R p
  off : c (e - 1) ≠ R (e - 1)
structure IsBeg (c L : Int → Int) (e b : Int) : Prop where
  le : b ≤ e
  on : ∀ p, p < b → c p = L p
  off : b = e ∨ c b ≠ L b
theorem IsEnd.one {c R : Int → Int} {e e' : Int} (h : IsEnd c R e) (h' : IsEnd c R e') : e = e' := by
  apply Int.le_antisymm
  · refine Int.not_lt.mp fun hlt => ?_
    exact h.off (h'.on _ (by omega))
  · refine Int.not_lt.mp fun hlt => ?_
    exact h'.off (h.on _ (by omega))
theorem IsBeg.one {c L : Int → Int} {e b b' : Int} (h : IsBeg c L e b) (h' : IsBeg c L e b') : b = b' := by
  apply Int.le_antisymm
  · refine Int.not_lt.mp fun hlt => ?_
    rcases h'.off with z | z
    · have := h.le; omega
    · exact z (h.on _ hlt)
  · refine Int.not_lt.mp fun hlt => ?_
    rcases h.off with z | z
    · have := h'.le; omega
    · exact z (h'.on _ hlt)
theorem leastEnd_is {e : Int} (h : leastEnd wl inn wr st = some e) : IsEnd (celAt wl inn wr st) (fun p => wheelAt wr (p - (st + inn.length))) e := by
  unfold leastEnd at h
  dsimp only at h
  split at h
  · rename_i hc
    cases h
    obtain ⟨h1, h2⟩ := endFrom_is (g := fun p => decide (celAt wl inn wr st p = wheelAt wr (p - (st + inn.length)))) (k := inn.length + wl.length + wr.length) (e := st + inn.length)
    refine ⟨fun p hp => ?_, of_decide_eq_false (h2 (by omega))⟩
    by_cases hf : st + inn.length ≤ p
    · exact celAt_right hf
    · exact of_decide_eq_true (h1 p hp (by omega))
  · cases h
theorem greatBeg_is {e : Int} : IsBeg (celAt wl inn wr st) (fun p => wheelAt wl (p - st)) e (greatBeg wl inn wr st e) := by
  have hle := (greatBeg_at (wl := wl) (inn := inn) (wr := wr) (st := st) (e := e)).1
  unfold greatBeg at hle ⊢
  dsimp only at hle ⊢
  obtain ⟨h1, h2, h3⟩ := begFrom_is (g := fun p => decide (celAt wl inn wr st p = wheelAt wl (p - st))) (k := (e - st).toNat) (b := st)
  have low : ∀ p, p < begFrom (fun p => decide (celAt wl inn wr st p = wheelAt wl (p - st))) (e - st).toNat st → celAt wl inn wr st p = wheelAt wl (p - st) := fun p hp => by
    by_cases hs : p < st
    · exact celAt_l hs
    · exact of_decide_eq_true (h1 p (by omega) hp)
  split
  · rename_i hc
    exact ⟨Int.le_refl _, fun p hp => low p (by omega), .inl rfl⟩
  · rename_i hc
    refine ⟨by omega, low, ?_⟩
    by_cases hb : begFrom (fun p => decide (celAt wl inn wr st p = wheelAt wl (p - st))) (e - st).toNat st = e
    · exact .inl hb
    · exact .inr (of_decide_eq_false (h2 (by omega)))
end
/-- a told row's cell -/
def RowV.cell (v : RowV) (p : Int) : Int := celAt v.left v.mid v.right v.at_ p
theorem mod_dvd (a : Int) {n : Int} : n ∣ (a - a % n) := ⟨a / n, by have := Int.mul_ediv_add_emod a n; omega⟩
/-- the plain form has the same cells -/
theorem rowV_cell {m st : Int} {l mi r : List Int} (hl : l ≠ []) (hr : r ≠ []) (p : Int) : (rowV m l mi r st).cell p = celAt l mi r st p := by
  rw [← celAt_root hl hr]
  have n1 := rootL_ne hl
  have n2 := rootL_ne hr
  have p1 := List.length_pos_iff.mpr n1
  have p2 := List.length_pos_iff.mpr n2
  cases ee : leastEnd (rootL l) mi (rootL r) st with
  | none =>
    rw [rowV_none (m := m) ee, round_all n1 n2 ee]
    have key : ∀ q : Int, wheelAt ((List.range (rootL r).length).map fun s => wheelAt (rootL r) ((s : Nat) - (st + mi.length))) q = wheelAt (rootL r) (q - (st + mi.length)) := fun q => by
      rw [wheel_get rfl p2]
      have h0 := Int.emod_nonneg q (show ((rootL r).length : Int) ≠ 0 by omega)
      rw [show (((q % ((rootL r).length : Int)).toNat : Nat) : Int) = q % ((rootL r).length : Int) by omega]
      exact ((wheel_per (st + mi.length)).same (x := q) (y := q % ((rootL r).length : Int)) (mod_dvd q)).symm
    show celAt _ [] _ 0 p = _
    by_cases hp : p < 0
    · rw [celAt_l hp, key]
      congr 1
      omega
    · rw [celAt_right (by show 0 + ((0 : Nat) : Int) ≤ p; omega), key]
      congr 1
      show p - (0 + ((0 : Nat) : Int)) - _ = _
      omega
  | some e =>
    have hE := leastEnd_is ee
    have hB := greatBeg_is (wl := rootL l) (inn := mi) (wr := rootL r) (st := st) (e := e)
    rw [rowV_some (m := m) ee]
    generalize greatBeg (rootL l) mi (rootL r) st e = b at hB ⊢
    have hbe := hB.le
    show celAt (wordC _ _ _ _ _ _) (wordC _ _ _ _ _ _) (wordC _ _ _ _ _ _) b p = _
    by_cases h1 : p < b
    · rw [celAt_l h1]
      unfold wordC
      rw [wheel_get rfl p1]
      have h0 := Int.emod_nonneg (p - b) (show ((rootL l).length : Int) ≠ 0 by omega)
      have h2 := Int.emod_lt_of_pos (p - b) (show (0 : Int) < ((rootL l).length : Int) by omega)
      rw [show ((((p - b) % ((rootL l).length : Int)).toNat : Nat) : Int) = (p - b) % ((rootL l).length : Int) by omega, hB.on _ (by omega), hB.on p h1]
      refine ((wheel_per st).same ?_).symm
      rw [show p - (b - ((rootL l).length : Int) + (p - b) % ((rootL l).length : Int)) = (p - b - (p - b) % ((rootL l).length : Int)) + (rootL l).length by omega]
      exact Int.dvd_add (mod_dvd _) (Int.dvd_refl _)
    · by_cases h2 : p < e
      · have := celAt_m (wl := wordC (rootL l) mi (rootL r) st (b - ((rootL l).length : Int)) (rootL l).length) (inn := wordC (rootL l) mi (rootL r) st b (e - b).toNat) (wr := wordC (rootL l) mi (rootL r) st e (rootL r).length) (st := b) (i := (p - b).toNat) (by rw [wordC_len]; omega)
        rw [show b + (((p - b).toNat : Nat) : Int) = p by omega] at this
        rw [this]
        unfold wordC
        rw [List.getD_eq_getElem?_getD, List.getElem?_map, List.getElem?_range (by omega)]
        show celAt _ _ _ _ (b + (((p - b).toNat : Nat) : Int)) = _
        rw [show b + (((p - b).toNat : Nat) : Int) = p by omega]
      · rw [celAt_right (by rw [wordC_len]; omega), wordC_len, show b + (((e - b).toNat : Nat) : Int) = e by omega]
        rw [wheel_get (w := wordC (rootL l) mi (rootL r) st e (rootL r).length) (f := fun s => celAt (rootL l) mi (rootL r) st (e + (s : Nat))) rfl p2]
        have h0 := Int.emod_nonneg (p - e) (show ((rootL r).length : Int) ≠ 0 by omega)
        rw [show ((((p - e) % ((rootL r).length : Int)).toNat : Nat) : Int) = (p - e) % ((rootL r).length : Int) by omega, hE.on _ (by omega), hE.on p (by omega)]
        refine ((wheel_per (st + mi.length)).same ?_).symm
        rw [show p - (e + (p - e) % ((rootL r).length : Int)) = (p - e - (p - e) % ((rootL r).length : Int)) by omega]
        exact mod_dvd _
end PD
set_option Elab.async false
set_option linter.all false
set_option maxRecDepth 100000
set_option maxHeartbeats 4000000
/-! PD28: isinstance of an own class; == and != of own objects. -/
namespace PD
open PySem PySem.Spec L2
section
variable {M : Model} {prog : Program} {w : World} {A : Around} {E : Value → Shared → Prop} {s : Shared} {K : PySem.W.Frag} {x C f L : Addr} {ox : Obj} {od : Option Obj} {h₀ : Heap} {m : Str → Option Value} {b tb : Value}
theorem ifBound_B {name : Str} {id : String} {args : List Value} {Q : Option Value → Shared → Prop} (X : K.In s.heap) (I : PySem.W.InstAt s.heap x ox C od) (hs : PySem.W.findIn K (.ref C) name = some (some (.builtin id)))
    (hb : ∀ self, bindSpecial (.builtin id) self = pure (.builtin id, [self]))
    (h : wpAny M A (call (.builtin id) (.ref x :: args)) (fun v => Q (some v)) E s) : wpAny M A (callSpecialIfBound? (.ref x) name args) Q E s := by
  simp only [callSpecialIfBound?, bindSpecialIfBound?]
  refine wpAny_holding (wpAny_bind (wpAny_bind (wpAny_bind (I.type.here ((PySem.W.looks_findIn X hs).here ?_)))))
  refine wpAny_bind (wpAny_askSetting (wpAny_ite ?_))
  have fin : wpAny M A (call (.builtin id) ([.ref x] ++ args) >>= fun v => pure (some v)) Q E s := wpAny_bind (wpAny_mono h (fun v s' h' => wpAny_pure h') fun _ _ h' => h')
  split
  · exact wpAny_bind (wpAny_of_eq (hb _) (wpAny_pure (by exact fin)))
  · exact wpAny_tryCatch (wpAny_bind (wpAny_of_eq (hb _) (wpAny_pure (by exact fin))))
open Builtin in
theorem own_ne {Q : Value → Shared → Prop} (hu : A.units < cLine) (hu1 : A.in1.units < cLine) (F : PyProof.Rows.Fr h₀ L s.heap m) (X₀ : K.In h₀) (I : PySem.W.InstAt s.heap x ox C od) (hb : PySem.W.Looks (model prog w) s.heap (typeOf b) tb) (hn : PySem.W.notFirst K C tb = true)
    (hs : PySem.W.findIn K (.ref C) "__ne__" = some (some (.builtin "object.__ne__"))) (he : PySem.W.findIn K (.ref C) "__eq__" = some (some (.ref f))) (hf : PySem.W.isFn K (.ref f) = true) (hm : PySem.W.mroIn K C (.type "object") = some true)
    (h : wpAny (model prog w) A.in1 (call (.ref f) [.ref x, b]) (fun v s' => ∃ r, v = .bool r ∧ Q (.bool (!r)) s') E s) : wpAny (model prog w) A (richCompare .NotEq (.ref x) b) Q E s := by
  have X := X₀.keeps F.keep
  have body : wpAny (model prog w) A (call (.builtin "object.__ne__") [.ref x, b]) (fun v s' => ∃ r, v = .bool r ∧ Q v s') E s := by
    refine wpAny_call (codeAny_call_builtin PySem.F.cmp_object.ne.plain PySem.F.cmpEntry_ne (PySem.W.check_slot PySem.F.cmpKind_ne PySem.F.cmpSplit_ne (I.type.andThen (PySem.W.looks_mroIn X hm)) (PySem.F.cmpArgs_ne _ _) ?_))
    unfold Builtin.«object.__ne__»
    refine wpAny_bind (m := slotArgs "__ne__" 1 _) (wpAny_pure ?_)
    refine wpAny_bind (m := cRoomFor _ _) (wpAny_cRoomFor hu1 ?_)
    refine wpAny_bind (m := callSpecialIfBound? (.ref x) (Str.ofString "__eq__") _) (PySem.W.ifBound_K X I he hf (wpAny_mono h (fun r s' hq => ?_) fun _ _ y => y))
    obtain ⟨r, rfl, hq⟩ := hq
    refine wpAny_bind (m := truthy (.bool _)) (wpAny_truthy_bool ?_)
    exact wpAny_pure ⟨_, rfl, hq⟩
  have one : wpAny (model prog w) A (tryCompare (.ref x) "__ne__" b) (fun r s' => ∃ v, r = some v ∧ Q v s') E s := by
    unfold tryCompare
    refine wpAny_bind (ifBound_B X I hs PySem.F.cmp_object.ne.bind (wpAny_mono body (fun v s' hv => ?_) fun _ _ e => e))
    obtain ⟨r, rfl, hq⟩ := hv
    exact wpAny_pure ⟨_, rfl, hq⟩
  unfold richCompare
  simp only [oneThing_ref]
  refine wpAny_holding (wpAny_bind (wpAny_cRoomFor hu ?_))
  refine wpAny_bind (I.type.here (wpAny_bind (hb.here ?_)))
  split
  · rename_i q
    have e : PySem.W.subIn K tb (.ref C) = some false := by
      rcases Bool.or_eq_true_iff.mp hn with e | e
      · rw [beq_iff_eq.mp e] at q; simp at q
      · exact beq_iff_eq.mp e
    refine wpAny_bind ((PySem.W.looks_subIn X e).here ?_)
    simp only [Bool.false_eq_true, if_false]
    refine wpAny_bind (wpAny_mono one (fun r s' z => ?_) fun _ _ e => e)
    obtain ⟨v, rfl, hq⟩ := z
    exact wpAny_pure hq
  · refine wpAny_bind (wpAny_pure ?_)
    simp only [Bool.false_eq_true, if_false]
    refine wpAny_bind (wpAny_mono one (fun r s' z => ?_) fun _ _ e => e)
    obtain ⟨v, rfl, hq⟩ := z
    exact wpAny_pure hq
end
/-- what isinstance and == ask of the class at C -/
structure OIsi (K : PySem.W.Frag) (C : Addr) : Prop where
  cl : Cls K C
  ca : PySem.W.findIn K (.ref C) "__class__" = some (some (.builtin "object.__class__"))
  cn : PySem.W.specialIn K (.builtin "object.__class__") "__get__" = some (some (.builtin "getset_descriptor.__get__"))
  ct : PySem.W.takesIn K (.builtin "object.__class__") = some true
  cm : PySem.W.mroIn K C (.type "object") = some true
  cs : ((PySem.W.clsIn K C).isSome && PySem.W.typeIn K (.ref C) == some (.type "type")) = true
theorem sub_kind {K : PySem.W.Frag} {C : Addr} {t : String} (h : t ∈ kinds) : PySem.W.subIn K (.type t) (.ref C) = some false := by
  simp only [kinds, List.mem_cons, List.not_mem_nil, or_false] at h
  rcases h with rfl | rfl | rfl | rfl | rfl | rfl | rfl
  · show (fastBuiltinMro "NoneType").map (·.contains (.ref C)) = some false
    rw [show fastBuiltinMro "NoneType" = some [.type "NoneType", .type "object"] by decide +kernel]; simp
  · show (fastBuiltinMro "bool").map (·.contains (.ref C)) = some false
    rw [show fastBuiltinMro "bool" = some [.type "bool", .type "int", .type "object"] by decide +kernel]; simp
  · show (fastBuiltinMro "int").map (·.contains (.ref C)) = some false
    rw [show fastBuiltinMro "int" = some [.type "int", .type "object"] by decide +kernel]; simp
  · show (fastBuiltinMro "str").map (·.contains (.ref C)) = some false
    rw [show fastBuiltinMro "str" = some [.type "str", .type "object"] by decide +kernel]; simp
  · show (fastBuiltinMro "tuple").map (·.contains (.ref C)) = some false
    rw [show fastBuiltinMro "tuple" = some [.type "tuple", .type "object"] by decide +kernel]; simp
  · show (fastBuiltinMro "list").map (·.contains (.ref C)) = some false
    rw [show fastBuiltinMro "list" = some [.type "list", .type "object"] by decide +kernel]; simp
  · show (fastBuiltinMro "dict").map (·.contains (.ref C)) = some false
    rw [show fastBuiltinMro "dict" = some [.type "dict", .type "object"] by decide +kernel]; simp
theorem nf_kind {K : PySem.W.Frag} {C : Addr} {t : String} (h : t ∈ kinds) : PySem.W.notFirst K C (.type t) = true := by
  unfold PySem.W.notFirst
  rw [sub_kind h]
  simp
theorem nf_self {K : PySem.W.Frag} {C : Addr} : PySem.W.notFirst K C (.ref C) = true := by
  unfold PySem.W.notFirst
  simp
theorem kit_self {K : PySem.W.Frag} {C : Addr} : PySem.W.kitOne K (.ref C) (.ref C) = some true := by
  unfold PySem.W.kitOne
  simp
theorem kit_not {K : PySem.W.Frag} {C : Addr} {t : String} (o : OIsi K C) (h : t ∈ kinds) : PySem.W.kitOne K (.type t) (.ref C) = some false := by
  unfold PySem.W.kitOne
  rw [if_neg (by simp)]
  show (if _ then PySem.W.subIn K (.type t) (.ref C) else none) = _
  rw [if_pos o.cs, sub_kind h]
section
variable {X : Cx} {f : Fm} {W : WX} {a b : Expr} {wa wb : WE} {pos p : Pos} {env : Ev} {μ : Mu} {σ : L2.St} {F H : Hp} {cn : Str} {sp : SpD} {C g : Addr}
@[irreducible] def dIsO (cn : Str) (x : D) (Q : R → Prop) : Prop := (∃ ns vs, x = .ins cn ns vs ∧ Q (.fz (.bl true))) ∨ (∃ t, x.ty = some t ∧ Q (.fz (.bl false)))
theorem iso_ins {ns : List Str} {vs : List D} {Q : R → Prop} (q : Q (.fz (.bl true))) : dIsO cn (.ins cn ns vs) Q := by
  unfold dIsO
  exact .inl ⟨_, _, rfl, q⟩
theorem iso_row {r : RowV} {Q : R → Prop} (q : Q (.fz (.bl true))) : dIsO "Row" r.d Q := iso_ins q
theorem iso_not {x : D} {t : String} {Q : R → Prop} (h : x.ty = some t) (q : Q (.fz (.bl false))) : dIsO cn x Q := by
  unfold dIsO
  exact .inr ⟨_, h, q⟩
theorem own_ty {v : V} {r : R} {ns : List Str} {vs : List D} (hK : X.K = f.c.K) (hC : f.c.mg cn = some (.ref C)) (o : OIsi f.c.K C) (rel : Rel f env μ σ F H) (rz : RZ f env σ F v r) (e : r.d = .ins cn ns vs) :
    ∃ a dx fs, v = .ref a ∧ H a = some (.ins C dx fs) ∧ TyX X.K H v (.ref C) := by
  obtain ⟨a, dx, C', fs, rfl, h1, h2, h3, _, _⟩ := ins_at (rz_ins rz e)
  rw [hC] at h1
  cases h1
  have hh := rel.fh _ _ h2
  refine ⟨a, dx, fs, rfl, hh, ?_⟩
  rw [hK]
  exact .base (.ins hh o.cl o.ca o.cn o.ct o.cm)
theorem px_isiO {pn : Pos} (hK : X.K = f.c.K) (hmg : X.mg = f.c.mg) (hm : X.mg "isinstance" = none) (hC : X.mg cn = some (.ref C)) (o : OIsi X.K C) (ha : PX X f W a wa) (gl : Gl X "isinstance" := by rfl) (gT : Gl X cn := by rfl)
    (hdT : (cn == ("__debug__" : Str)) = false := by decide) (hs : starEach [a, .Name cn pn] X.env = (false, eval a X.env) :: starEach [.Name cn pn] X.env := by rfl) (hs2 : starEach [.Name cn pn] X.env = (false, eval (.Name cn pn) X.env) :: starEach [] X.env := by rfl)
    (hpl : (backTo pos (starEach [.Name cn pn] X.env)).any (·.1) = false := by rfl) : PX X f W (.Call (.Name "isinstance" p) [a, .Name cn pn] [] pos) (wUn (dIsO cn) wa) :=
  pe_imp (pe_callB call_isi gl hm (by decide +kernel) (pa_cons ha (pa_cons (pe_glob (v := .ref C) gT hC rfl hdT) pa_nil hs2) hs) (by decide) (by decide) hs hpl) fun σ H Q h =>
    lf1k (g := fun r0 env μ0 Qp Ep => dIsO cn r0.d fun r => Qp r μ0) (r := fun v σ H1 Q => rIsi X.K [v, .ref C] H1 Q) (fun r0 v σ H Q ⟨env, μ, F, Qp, Ep, rel, rz, q, k, kx⟩ => by
      unfold dIsO at q
      rcases q with ⟨ns, vs, e, q⟩ | ⟨t, e, q⟩
      · obtain ⟨_, _, _, _, _, ty⟩ := own_ty hK (by rw [← hmg]; exact hC) (by rw [← hK]; exact o) rel rz e
        exact ⟨v, .ref C, .ref C, .ref C, true, rfl, .own C, ty, kit_self, k (.fz _) μ _ F H rel (Same.refl _) (.bl _) q⟩
      · exact ⟨v, .ref C, .type t, .ref C, false, rfl, .own C, by rw [hK]; exact rep_ty (rz.rep rel) e, kit_not o (ty_kinds e), k (.fz _) μ _ F H rel (Same.refl _) (.bl _) q⟩) σ H Q h
/-- x == y (g = id), x != y (g = not), x an object of that class -/
def wCmpO (cn : Str) (sp : SpD) (g : Bool → Bool) (wa wb : WE) : WE := fun env μ Q E => wa env μ (fun r1 μ1 => wb env μ1 (fun r2 μ2 => (∃ ns vs, r1.d = .ins cn ns vs) ∧ ((∃ ns vs, r2.d = .ins cn ns vs) ∨ ∃ d t, r2 = .fz d ∧ d.ty = some t) ∧
  sp [r1.d, r2.d] μ2 (fun r μ3 => ∃ k, r = .fz (.bl k) ∧ Q (.fz (.bl (g k))) μ3) E) E) E
theorem run_fnA {CX : CXT} {A : Around} {k : Nat} {fd : FuncData} {ps : List Str} {spv : Sp} {E : XK} {pins : List (Addr × Obj)} {s : Shared} {Q : VK} {us : List Value} {vs : List V} (G : FnOk X.prog X.w X.K X.mg X.base CX k g fd ps spv) (hr : Room k A) (e0 : Env0 X.prog X.w X.K X.mg X.base A X.stack s H) (hb : Binds X.K fd ps [])
    (hx : PassesAt CX X σ E) (I : Inv X pins σ H s) (r : Vals vs us) (h : spv vs H Q E) : wpAny (model X.prog X.w) A (call (.ref g) us) (EP X pins σ Q) X.xe s := by
  have hl : us.length = ps.length := by rw [← r.length]; exact G.len _ _ _ _ h
  have b := hb s us I.kIn (by rw [List.append_nil]; exact hl)
  rw [List.append_nil] at b
  refine wpAny_call (codeAny_mono (G.run A X.stack s H ⟨us, []⟩ us vs Q E hr e0 b r h) fun r s' hq => ?_)
  cases r with
  | error e => exact hx pins H s e s' I hq
  | ok fl =>
    cases fl with
    | ret u => exact I.after hq
    | next => exact False.elim hq
    | brk => exact False.elim hq
    | cont => exact False.elim hq
/-- the class's own ==, its != from object -/
structure OwnR (X : Cx) (c : Cfg) (cn : Str) (sp : SpD) : Prop where
  to : ∃ (C g : Addr) (k : Nat) (fd : FuncData) (ps : List Str), c.mg cn = some (.ref C) ∧ OIsi c.K C ∧ PySem.W.findIn c.K (.ref C) "__ne__" = some (some (.builtin "object.__ne__")) ∧ PySem.W.findIn c.K (.ref C) "__eq__" = some (some (.ref g)) ∧ PySem.W.isFn c.K (.ref g) = true ∧
    FnOk X.prog X.w X.K X.mg X.base (L2.CX X.prog X.w) k g fd ps (spOf c sp) ∧ Room (k + 1) X.A ∧ Binds X.K fd ps []
/-- both operands, as values -/
def cmpR (X : Cx) (f : Fm) (W : WX) (cn : Str) (sp : SpD) (h : Bool → Bool) (σ : L2.St) (Q : VK) (v1 v2 : V) (H : Hp) : Prop := ∃ (C a : Addr) (t : Value), f.c.mg cn = some (.ref C) ∧ v1 = .ref a ∧ (∃ dx fs, H a = some (.ins C dx fs)) ∧ TyX X.K H v2 t ∧ PySem.W.notFirst X.K C t = true ∧
  spOf f.c sp [v1, v2] H (fun v H' => ∃ k, v = .bl k ∧ Q (.bl (h k)) H') (L2.WE W σ)
theorem cmp_la {h : Bool → Bool} (hK : X.K = f.c.K) (o : OwnR X f.c cn sp) (σ : L2.St) (H : Hp) (Q : VK) (hw : Lf f W (wCmpO cn sp h wa wb) σ H Q) : Lf f W wa σ H (fun v1 H1 => Lf f W wb σ H1 (fun v2 H2 => cmpR X f W cn sp h σ Q v1 v2 H2)) := by
  obtain ⟨C, g, k, fd, ps, g1, g2, g3, g4, g5, g6, g7, g8⟩ := o.to
  obtain ⟨env, μ, F, Qp, Ep, rel, hw, k', kx⟩ := hw
  refine ⟨env, μ, F, _, Ep, rel, hw, fun r1 μ1 v1 F1 H1 rel1 e1 rr1 q1 => ?_, kx⟩
  obtain ⟨F1', rel1', e1', rz1⟩ := settle rel1 rr1
  refine ⟨env, μ1, F1', _, Ep, rel1', q1, fun r2 μ2 v2 F2 H2 rel2 e2 rr2 q2 => ?_, fun x μ2 cls d F2 H2 rel2 e2 xr q2 => kx x μ2 cls d F2 H2 rel2 ((e1.trans e1').trans e2) xr q2⟩
  obtain ⟨F2', rel2', e2', rz2⟩ := settle rel2 rr2
  have eA := ((e1.trans e1').trans e2).trans e2'
  obtain ⟨⟨ns, vs, en⟩, hy, hsp⟩ := q2
  have z1 := rz1.mono (e2.trans e2')
  obtain ⟨a, dx, fs, ev, ha, ty1⟩ := own_ty hK g1 g2 rel2' z1 en
  have base : ∀ t, Rep f.c F2' v2 r2.d → TyX X.K H2 v2 t → PySem.W.notFirst X.K C t = true → cmpR X f W cn sp h σ Q v1 v2 H2 := fun t rp2 ty nf => by
    refine ⟨C, a, t, g1, ev, ⟨dx, fs, ha⟩, ty, nf, ?_⟩
    refine sp_of rel2' (.cons (by rw [en]; exact rz_ins z1 en) (.cons rp2 .nil)) hsp (fun r μ3 v F3 H3 rel3 e3 rr3 q3 => ?_) fun x μ3 cls d F3 H3 rel3 e3 xr q3 => kx x μ3 cls d F3 H3 rel3 (eA.trans e3) xr q3
    obtain ⟨b, rfl, q⟩ := q3
    have rb : Rep f.c F3 v (.bl b) := rr3
    cases rb
    exact ⟨b, rfl, k' (.fz (.bl (h b))) μ3 (.bl (h b)) F3 H3 rel3 (eA.trans e3) (.bl _) q⟩
  rcases hy with ⟨ns2, vs2, ee⟩ | ⟨d, t, rfl, ee⟩
  · obtain ⟨_, _, _, _, _, ty2⟩ := own_ty hK g1 g2 rel2' rz2 ee
    exact base _ (by rw [ee]; exact rz_ins rz2 ee) ty2 nf_self
  · exact base _ (rz2.fz fun i k z => by cases z) (by rw [hK]; exact rep_ty (rz2.rep rel2') ee) (nf_kind (ty_kinds ee))
theorem ownEq_at {pins : List (Addr × Obj)} {s2 : Shared} {H2 : Hp} {Q : VK} {x y : V} {v u : Value} (hK : X.K = f.c.K) (o : OwnR X f.c cn sp) (tk : Takes X W) (I2 : L2.Inv X pins σ H2 s2) (rx : RelV x v) (ry : RelV y u) (q : cmpR X f W cn sp id σ Q x y H2) :
    wpAny (model X.prog X.w) X.A (compareOp .Eq v u) (EP X pins σ Q) X.xe s2 := by
  obtain ⟨C, g, k, fd, ps, g1, g2, g3, g4, g5, g6, g7, g8⟩ := o.to
  obtain ⟨C', a, t, k1, rfl, ⟨dx, fs, hins⟩, ty, nf, q⟩ := q
  rw [g1] at k1
  cases k1
  obtain rfl : v = Value.ref a := rx
  obtain ⟨mA, J, _⟩ := ins_get I2.hok hins
  obtain ⟨od, J, _⟩ := J.look
  obtain ⟨m, hF⟩ := I2.fr
  obtain ⟨P, Z, pP, _⟩ := kit_of I2 ry ty
  show wpAny _ _ (richCompare .Eq (.ref a) u) _ _ _
  refine PySem.W.cmp_K (op := .Eq) (tb := t) g7.units0 hF I2.ok.mod.kin J (Z.ty _ _ I2.kIn pP) nf (by rw [hK]; exact g4) (by rw [hK]; exact g5) ?_
  refine wpAny_mono (run_fnA (E := L2.WE W σ) (us := [.ref a, u]) (vs := [.ref a, y]) g6 (g7.mono (Nat.le_succ _)) I2.env0 g8 (passAt tk σ) I2 (.cons rfl (.cons ry .nil)) q) (fun r s' hq => ?_) fun _ _ e => e
  obtain ⟨z, H', I', rz, kk, rfl, q'⟩ := hq
  cases rz
  exact ⟨.bl kk, H', I', rfl, q'⟩
theorem px_eqO (hK : X.K = f.c.K) (o : OwnR X f.c cn sp) (tk : Takes X W) (ha : PX X f W a wa) (hb : PX X f W b wb) : PX X f W (.Compare a [.Eq] [b] pos) (wCmpO cn sp id wa wb) :=
  ⟨fun pins s σ H Q I h => wpAny_Compare1 (binT ha hb I (cmp_la hK o σ H Q h) fun v u s2 x y H2 I2 rx ry q => ownEq_at hK o tk I2 rx ry q) (nomark _)⟩
theorem pxt_eqO (hK : X.K = f.c.K) (o : OwnR X f.c cn sp) (tk : Takes X W) (ha : PX X f W a wa) (hb : PX X f W b wb) : PXT X f W (.Compare a [.Eq] [b] pos) (wVal (wCmpO cn sp id wa wb)) := by
  refine ⟨fun pins s σ H Q I h => ?_⟩
  have h1 := cmp_la hK o σ H _ (lt_val h)
  refine wpAny_isTrue_Compare1 (thn (ha.run pins s σ H _ I h1) fun v s1 ⟨x, H1, I1, r1, q1⟩ => thn (hb.run pins s1 σ H1 _ I1 q1) fun u s2 ⟨y, H2, I2, r2, q2⟩ =>
    thn (ownEq_at hK o tk I2 r1 r2 q2) fun c s3 ⟨z, H3, I3, r3, k, e, q3⟩ => ?_) (nomark _)
  subst e
  cases r3
  exact wpAny_truthy_bool ⟨H3, I3, q3⟩
theorem ownNe_at {pins : List (Addr × Obj)} {s2 : Shared} {H2 : Hp} {Q : VK} {x y : V} {v u : Value} (hK : X.K = f.c.K) (o : OwnR X f.c cn sp) (tk : Takes X W) (I2 : L2.Inv X pins σ H2 s2) (rx : RelV x v) (ry : RelV y u) (q : cmpR X f W cn sp not σ Q x y H2) :
    wpAny (model X.prog X.w) X.A (compareOp .NotEq v u) (EP X pins σ Q) X.xe s2 := by
  obtain ⟨C, g, k, fd, ps, g1, g2, g3, g4, g5, g6, g7, g8⟩ := o.to
  obtain ⟨C', a, t, k1, rfl, ⟨dx, fs, hins⟩, ty, nf, q⟩ := q
  rw [g1] at k1
  cases k1
  obtain rfl : v = Value.ref a := rx
  obtain ⟨mA, J, _⟩ := ins_get I2.hok hins
  obtain ⟨od, J, _⟩ := J.look
  obtain ⟨m, hF⟩ := I2.fr
  obtain ⟨P, Z, pP, _⟩ := kit_of I2 ry ty
  show wpAny _ _ (richCompare .NotEq (.ref a) u) _ _ _
  refine own_ne (tb := t) g7.units0 g7.in1.units0 hF I2.ok.mod.kin J (Z.ty _ _ I2.kIn pP) nf (by rw [hK]; exact g3) (by rw [hK]; exact g4) (by rw [hK]; exact g5) (by rw [hK]; exact g2.cm) ?_
  refine wpAny_mono (run_fnA (E := L2.WE W σ) (us := [.ref a, u]) (vs := [.ref a, y]) g6 g7.in1 I2.env0.in1 g8 (passAt tk σ) I2 (.cons rfl (.cons ry .nil)) q) (fun r s' hq => ?_) fun _ _ e => e
  obtain ⟨z, H', I', rz, kk, rfl, q'⟩ := hq
  cases rz
  exact ⟨kk, rfl, .bl (!kk), H', I', rfl, q'⟩
theorem px_neO (hK : X.K = f.c.K) (o : OwnR X f.c cn sp) (tk : Takes X W) (ha : PX X f W a wa) (hb : PX X f W b wb) : PX X f W (.Compare a [.NotEq] [b] pos) (wCmpO cn sp not wa wb) :=
  ⟨fun pins s σ H Q I h => wpAny_Compare1 (binT ha hb I (cmp_la hK o σ H Q h) fun v u s2 x y H2 I2 rx ry q => ownNe_at hK o tk I2 rx ry q) (nomark _)⟩
theorem pxt_neO (hK : X.K = f.c.K) (o : OwnR X f.c cn sp) (tk : Takes X W) (ha : PX X f W a wa) (hb : PX X f W b wb) : PXT X f W (.Compare a [.NotEq] [b] pos) (wVal (wCmpO cn sp not wa wb)) := by
  refine ⟨fun pins s σ H Q I h => ?_⟩
  have h1 := cmp_la hK o σ H _ (lt_val h)
  refine wpAny_isTrue_Compare1 (thn (ha.run pins s σ H _ I h1) fun v s1 ⟨x, H1, I1, r1, q1⟩ => thn (hb.run pins s1 σ H1 _ I1 q1) fun u s2 ⟨y, H2, I2, r2, q2⟩ =>
    thn (ownNe_at hK o tk I2 r1 r2 q2) fun c s3 ⟨z, H3, I3, r3, k, e, q3⟩ => ?_) (nomark _)
  subst e
  cases r3
  exact wpAny_truthy_bool ⟨H3, I3, q3⟩
end
end PD
set_option Elab.async false
set_option linter.all false
set_option maxRecDepth 100000
set_option maxHeartbeats 4000000
/-! PD29: a row's plain form is told by its cells. -/
namespace PD
open PySem PySem.Spec L2
theorem Per.mod {f : Int → Int} {p q : Int} (hp : Per f p) (hq : Per f q) : Per f (q % p) := fun x => by
  have e := hp.same (x := x + q % p) (y := x + q) ⟨-(q / p), by have := Int.mul_ediv_add_emod q p; rw [Int.mul_neg]; omega⟩
  rw [e, hq]
theorem wheelAt_nat {w : List Int} {i : Nat} (h : i < w.length) : w[i]? = some (wheelAt w i) := by
  unfold wheelAt
  rw [Int.emod_eq_of_lt (by omega) (by omega), Int.toNat_natCast, List.getD_eq_getElem?_getD, List.getElem?_eq_getElem h]
  rfl
theorem wheel_per0 {w : List Int} : Per (wheelAt w) w.length := fun x => by
  have h : wheelAt w (x + w.length - 0) = wheelAt w (x - 0) := wheel_per 0 x
  rwa [Int.sub_zero, Int.sub_zero] at h
theorem isRt_of {l : List Int} {s : Nat} (hs : 0 < s) (hl : 0 < l.length) (hd : l.length % s = 0) (h : Per (wheelAt l) s) : isRt l s = true := by
  have hle : s ≤ l.length := Nat.le_of_dvd hl (Nat.dvd_of_mod_eq_zero hd)
  have hw : (l.take s).length = s := by rw [List.length_take]; omega
  have hdm := Nat.div_mul_cancel (Nat.dvd_of_mod_eq_zero hd)
  unfold isRt
  rw [decide_eq_true hd, Bool.true_and, decide_eq_true_eq]
  apply List.ext_getElem?
  intro i
  by_cases hi : i < l.length
  · rw [rep_flat_at (by rw [hw, hdm]; exact hi), hw]
    have hm : i % s < s := Nat.mod_lt _ hs
    rw [List.getElem?_take, if_pos hm, wheelAt_nat hi, wheelAt_nat (Nat.lt_of_lt_of_le hm hle)]
    congr 1
    refine (h.same ?_).symm
    rw [Int.natCast_emod]
    exact mod_dvd _
  · rw [List.getElem?_eq_none_iff.mpr (by rw [List.length_flatten, List.map_replicate, hw, List.sum_replicate_nat, hdm]; omega), List.getElem?_eq_none_iff.mpr (by omega)]
theorem root_per {l : List Int} (hl : l ≠ []) : Per (wheelAt l) (rootL l).length := fun x => by
  rw [← wheel_root hl, ← wheel_root hl]
  exact wheel_per0 x
theorem root_min {l : List Int} (hl : l ≠ []) : ∀ k : Nat, 0 < k → Per (wheelAt l) k → (rootL l).length ≤ k := by
  have hlen := List.length_pos_iff.mpr hl
  intro k
  induction k using Nat.strongRecOn with
  | ind k ih =>
    intro hk hp
    by_cases h0 : l.length % k = 0
    · have hle : k ≤ l.length := Nat.le_of_dvd hlen (Nat.dvd_of_mod_eq_zero h0)
      have hr := isRt_of hk hlen h0 hp
      obtain ⟨j, rfl⟩ : ∃ j, k = j + 1 := ⟨k - 1, by omega⟩
      cases e : rtIx l with
      | none =>
        unfold rtIx at e
        rw [List.find?_eq_none] at e
        exact absurd hr (e j (List.mem_range.mpr (by omega)))
      | some n =>
        have hrt : rootL l = l.take (n + 1) := by
          unfold rootL
          rw [e]
        unfold rtIx at e
        rw [List.find?_range_eq_some] at e
        obtain ⟨e1, e2, e3⟩ := e
        rw [hrt, List.length_take]
        have : ¬ j < n := fun hj => by
          have := e3 j hj
          rw [hr] at this
          cases this
        omega
    · have hm := Nat.mod_lt l.length hk
      have := ih (l.length % k) hm (by omega) (by rw [Int.natCast_emod]; exact Per.mod hp wheel_per0)
      omega
theorem root_len_eq {l l' : List Int} (hl : l ≠ []) (hl' : l' ≠ []) {a : Int} (h : ∀ i, wheelAt l i = wheelAt l' (i + a)) : (rootL l).length = (rootL l').length := by
  have p1 := List.length_pos_iff.mpr (rootL_ne hl)
  have p2 := List.length_pos_iff.mpr (rootL_ne hl')
  have h' : ∀ i, wheelAt l' i = wheelAt l (i - a) := fun i => by rw [h, show i - a + a = i by omega]
  apply Nat.le_antisymm
  · refine root_min hl _ p2 fun x => ?_
    rw [h, h, show x + ((rootL l').length : Int) + a = x + a + (rootL l').length by omega]
    exact root_per hl' _
  · refine root_min hl' _ p1 fun x => ?_
    rw [h', h', show x + ((rootL l).length : Int) - a = x - a + (rootL l).length by omega]
    exact root_per hl _
section
variable {l mi r l' mi' r' : List Int} {st st' m : Int}
theorem celAt_roots (hl : l ≠ []) (hr : r ≠ []) : celAt (rootL l) mi (rootL r) st = celAt l mi r st := funext fun p => celAt_root hl hr p
theorem wordC_root (hl : l ≠ []) (hr : r ≠ []) {p : Int} {n : Nat} : wordC (rootL l) mi (rootL r) st p n = wordC l mi r st p n := by
  unfold wordC
  rw [celAt_roots hl hr]
theorem leastEnd_roots (hl : l ≠ []) (hr : r ≠ []) {e : Int} (h : leastEnd (rootL l) mi (rootL r) st = some e) : IsEnd (celAt l mi r st) (fun p => wheelAt r (p - (st + mi.length))) e := by
  have := leastEnd_is h
  rw [celAt_roots hl hr] at this
  refine ⟨fun p hp => ?_, fun z => this.off ?_⟩
  · rw [this.on p hp, wheel_root hr]
  · show celAt l mi r st (e - 1) = wheelAt (rootL r) _
    rw [z, wheel_root hr]
theorem greatBeg_roots (hl : l ≠ []) (hr : r ≠ []) {e : Int} : IsBeg (celAt l mi r st) (fun p => wheelAt l (p - st)) e (greatBeg (rootL l) mi (rootL r) st e) := by
  have := greatBeg_is (wl := rootL l) (inn := mi) (wr := rootL r) (st := st) (e := e)
  rw [celAt_roots hl hr] at this
  refine ⟨this.le, fun p hp => ?_, this.off.elim .inl fun z => .inr fun w => z ?_⟩
  · rw [this.on p hp, wheel_root hl]
  · show celAt l mi r st _ = wheelAt (rootL l) _
    rw [w, wheel_root hl]
theorem rowV_round (hl : l ≠ []) (hr : r ≠ []) (h : ∀ p, celAt l mi r st p = wheelAt r (p - (st + mi.length))) : rowV m l mi r st = ⟨m, wordC l mi r st 0 (rootL r).length, [], wordC l mi r st 0 (rootL r).length, 0⟩ := by
  cases e : leastEnd (rootL l) mi (rootL r) st with
  | some e1 => exact absurd (h _) (leastEnd_roots hl hr e).off
  | none =>
    have ew : ((List.range (rootL r).length).map fun s => wheelAt (rootL r) ((s : Nat) - (st + mi.length))) = wordC l mi r st 0 (rootL r).length := by
      unfold wordC
      refine List.map_congr_left fun s _ => ?_
      rw [h, wheel_root hr, Int.zero_add]
    rw [rowV_none e, ew]
theorem rowV_ends (hl : l ≠ []) (hr : r ≠ []) {e b : Int} (hE : IsEnd (celAt l mi r st) (fun p => wheelAt r (p - (st + mi.length))) e) (hB : IsBeg (celAt l mi r st) (fun p => wheelAt l (p - st)) e b) :
    rowV m l mi r st = ⟨m, wordC l mi r st (b - (rootL l).length) (rootL l).length, wordC l mi r st b (e - b).toNat, wordC l mi r st e (rootL r).length, b⟩ := by
  cases e1 : leastEnd (rootL l) mi (rootL r) st with
  | none =>
    have := round_all (rootL_ne hl) (rootL_ne hr) e1 (e - 1)
    rw [celAt_root hl hr, wheel_root hr] at this
    exact absurd this hE.off
  | some e2 =>
    obtain rfl := (leastEnd_roots hl hr e1).one hE
    rw [rowV_some e1, (greatBeg_roots hl hr).one hB, wordC_root hl hr, wordC_root hl hr, wordC_root hl hr]
theorem round_or (hl : l ≠ []) (hr : r ≠ []) : (∀ p, celAt l mi r st p = wheelAt r (p - (st + mi.length))) ∨ ∃ e b, IsEnd (celAt l mi r st) (fun p => wheelAt r (p - (st + mi.length))) e ∧ IsBeg (celAt l mi r st) (fun p => wheelAt l (p - st)) e b := by
  cases e1 : leastEnd (rootL l) mi (rootL r) st with
  | none =>
    refine .inl fun p => ?_
    have := round_all (rootL_ne hl) (rootL_ne hr) e1 p
    rw [celAt_root hl hr, wheel_root hr] at this
    exact this
  | some e2 => exact .inr ⟨e2, _, leastEnd_roots hl hr e1, greatBeg_roots hl hr⟩
/-- the same cells: the same plain form -/
theorem rowV_ext (hl : l ≠ []) (hr : r ≠ []) (hl' : l' ≠ []) (hr' : r' ≠ []) (h : ∀ p, celAt l mi r st p = celAt l' mi' r' st' p) : rowV m l mi r st = rowV m l' mi' r' st' := by
  have pl := List.length_pos_iff.mpr hl
  have pr := List.length_pos_iff.mpr hr
  have pl' := List.length_pos_iff.mpr hl'
  have pr' := List.length_pos_iff.mpr hr'
  have hc : celAt l mi r st = celAt l' mi' r' st' := funext h
  have hR : ∀ p, wheelAt r (p - (st + mi.length)) = wheelAt r' (p - (st' + mi'.length)) := by
    refine agree (f := fun p => wheelAt r (p - (st + mi.length))) (g := fun p => wheelAt r' (p - (st' + mi'.length))) (p := r.length) (q := r'.length) (a := max (st + mi.length) (st' + mi'.length)) (wheel_per _) (wheel_per _) (by omega) (by omega) fun x h1 _ => ?_
    have := h x
    rw [celAt_right (by omega), celAt_right (by omega)] at this
    exact this
  have hL : ∀ p, wheelAt l (p - st) = wheelAt l' (p - st') := by
    refine agree (f := fun p => wheelAt l (p - st)) (g := fun p => wheelAt l' (p - st')) (p := l.length) (q := l'.length) (a := min st st' - l.length - l'.length) (wheel_per _) (wheel_per _) (by omega) (by omega) fun x _ h2 => ?_
    have := h x
    rw [celAt_l (by omega), celAt_l (by omega)] at this
    exact this
  have two : (rootL r).length = (rootL r').length := root_len_eq hr hr' (a := st + mi.length - (st' + mi'.length)) fun i => by
    have := hR (i + (st + mi.length))
    rw [show i + (st + (mi.length : Int)) - (st + mi.length) = i by omega, show i + (st + (mi.length : Int)) - (st' + mi'.length) = i + (st + mi.length - (st' + mi'.length)) by omega] at this
    exact this
  have one : (rootL l).length = (rootL l').length := root_len_eq hl hl' (a := st - st') fun i => by
    have := hL (i + st)
    rw [show i + st - st = i by omega, show i + st - st' = i + (st - st') by omega] at this
    exact this
  have ew : ∀ p n, wordC l mi r st p n = wordC l' mi' r' st' p n := fun p n => by
    unfold wordC
    rw [hc]
  rcases round_or (mi := mi) (st := st) hl hr with q | ⟨e, b, hE, hB⟩
  · rw [rowV_round hl hr q, rowV_round hl' hr' (fun p => by rw [← hc, ← hR]; exact q p), two, ew]
  · rw [rowV_ends hl hr hE hB, rowV_ends hl' hr' (e := e) (b := b) ⟨fun p hp => by rw [← hc, hE.on p hp]; exact hR p, fun z => hE.off (by rw [hc, z]; exact (hR _).symm)⟩
      ⟨hB.le, fun p hp => by rw [← hc, hB.on p hp]; exact hL p, hB.off.elim .inl fun z => .inr fun w => z (by rw [hc, w]; exact (hL _).symm)⟩, one, two, ew, ew, ew]
/-! ### the law's own way to it -/
theorem plain_end (hl : l ≠ []) (hr : r ≠ []) {low e : Int} (hlow : low ≤ st - (rootL l).length - (rootL r).length)
    (he : e = endFrom (fun p => decide (celAt l mi r st p = celAt l mi r st (p + (rootL r).length))) (st + mi.length - low).toNat (st + mi.length)) :
    (low ≤ e ∧ e ≤ st + mi.length) ∧ (e = low → ∀ p, celAt l mi r st p = wheelAt r (p - (st + mi.length))) ∧ (e ≠ low → IsEnd (celAt l mi r st) (fun p => wheelAt r (p - (st + mi.length))) e) := by
  have p1 := List.length_pos_iff.mpr (rootL_ne hl)
  have p2 := List.length_pos_iff.mpr (rootL_ne hr)
  have bd := endFrom_le (g := fun p => decide (celAt l mi r st p = celAt l mi r st (p + (rootL r).length))) (k := (st + mi.length - low).toNat) (e := st + mi.length)
  obtain ⟨h1, h2⟩ := endFrom_is (g := fun p => decide (celAt l mi r st p = celAt l mi r st (p + (rootL r).length))) (k := (st + mi.length - low).toNat) (e := st + mi.length)
  rw [← he] at bd h1 h2
  have perR : Per (fun p => wheelAt r (p - (st + mi.length))) (rootL r).length := fun x => by
    show wheelAt r (x + _ - _) = wheelAt r (x - _)
    rw [show x + ((rootL r).length : Int) - (st + mi.length) = x - (st + mi.length) + (rootL r).length by omega]
    exact root_per hr _
  have perL : Per (fun p => wheelAt l (p - st)) (rootL l).length := fun x => by
    show wheelAt l (x + _ - _) = wheelAt l (x - _)
    rw [show x + ((rootL l).length : Int) - st = x - st + (rootL l).length by omega]
    exact root_per hl _
  -- from e on
  have on : ∀ n : Nat, ∀ p, e ≤ p → st + mi.length - p ≤ n → celAt l mi r st p = wheelAt r (p - (st + mi.length)) := by
    intro n
    induction n with
    | zero => exact fun p _ hp => celAt_right (by omega)
    | succ n ih =>
      intro p hp hn
      by_cases hf : st + mi.length ≤ p
      · exact celAt_right hf
      · have e1 := of_decide_eq_true (h1 p hp (by omega))
        rw [e1, ih _ (by omega) (by omega)]
        exact perR p
  have on' : ∀ p, e ≤ p → celAt l mi r st p = wheelAt r (p - (st + mi.length)) := fun p hp => on (st + mi.length - p).toNat p hp (by omega)
  refine ⟨⟨by omega, bd.1⟩, fun el p => ?_, fun en => ⟨on', fun z => ?_⟩⟩
  · have ag := agree (f := fun p => wheelAt l (p - st)) (g := fun p => wheelAt r (p - (st + mi.length))) (a := low) perL perR (by omega) (by omega) (fun x q1 q2 => by
      have := on' x (by omega)
      rw [celAt_l (by omega)] at this
      exact this)
    by_cases h3 : e ≤ p
    · exact on' p h3
    · rw [celAt_l (by omega)]
      exact ag p
  · have h3 := of_decide_eq_false (h2 (by omega))
    refine h3 ?_
    rw [on' (e - 1 + (rootL r).length) (by omega), z]
    exact (perR (e - 1)).symm
theorem plain_beg (hl : l ≠ []) {low e b : Int} (hlow : low ≤ st) (hle : low ≤ e)
    (hb : b = begFrom (fun p => decide (celAt l mi r st p = celAt l mi r st (p - (rootL l).length))) (e - low).toNat low) : low ≤ b ∧ IsBeg (celAt l mi r st) (fun p => wheelAt l (p - st)) e b := by
  have p1 := List.length_pos_iff.mpr (rootL_ne hl)
  have bd := begFrom_ge (g := fun p => decide (celAt l mi r st p = celAt l mi r st (p - (rootL l).length))) (k := (e - low).toNat) (b := low)
  obtain ⟨h1, h2, h3⟩ := begFrom_is (g := fun p => decide (celAt l mi r st p = celAt l mi r st (p - (rootL l).length))) (k := (e - low).toNat) (b := low)
  rw [← hb] at bd h1 h2 h3
  have perL : Per (fun p => wheelAt l (p - st)) (rootL l).length := fun x => by
    show wheelAt l (x + _ - _) = wheelAt l (x - _)
    rw [show x + ((rootL l).length : Int) - st = x - st + (rootL l).length by omega]
    exact root_per hl _
  have back : ∀ x, wheelAt l (x - (rootL l).length - st) = wheelAt l (x - st) := fun x => by
    have e1 : wheelAt l (x - (rootL l).length + (rootL l).length - st) = wheelAt l (x - (rootL l).length - st) := perL (x - (rootL l).length)
    rw [← e1, show x - ((rootL l).length : Int) + (rootL l).length = x by omega]
  have on : ∀ n : Nat, ∀ p, p < b → p - low < n → celAt l mi r st p = wheelAt l (p - st) := by
    intro n
    induction n with
    | zero => exact fun p _ hp => celAt_l (by omega)
    | succ n ih =>
      intro p hp hn
      by_cases hf : p < low
      · exact celAt_l (by omega)
      · have e1 := of_decide_eq_true (h1 p (by omega) hp)
        rw [e1, ih _ (by omega) (by omega)]
        exact back p
  have on' : ∀ p, p < b → celAt l mi r st p = wheelAt l (p - st) := fun p hp => on ((p - low).toNat + 1) p hp (by omega)
  refine ⟨bd, by omega, on', ?_⟩
  by_cases hbe : b = e
  · exact .inl hbe
  · refine .inr fun z => ?_
    have h4 := of_decide_eq_false (h2 (by omega))
    refine h4 ?_
    rw [z, on' (b - (rootL l).length) (by omega)]
    exact (back b).symm
/-! ### its size -/
theorem leastEnd_gt {e : Int} (h : leastEnd l mi r st = some e) : st - l.length - r.length < e := by
  unfold leastEnd at h
  dsimp only at h
  split at h
  · rename_i hc
    cases h
    exact hc
  · cases h
theorem rowV_size : (rowV m l mi r st).many = m ∧ (rowV m l mi r st).left.length ≤ max l.length r.length ∧ (rowV m l mi r st).right.length ≤ r.length ∧ (rowV m l mi r st).mid.length ≤ mi.length ∧ ((rowV m l mi r st).at_ = 0 ∨ (st - l.length - r.length ≤ (rowV m l mi r st).at_ ∧ (rowV m l mi r st).at_ ≤ st + mi.length)) := by
  have y1 := rootL_len (l := l)
  have y2 := rootL_len (l := r)
  cases e1 : leastEnd (rootL l) mi (rootL r) st with
  | none =>
    rw [rowV_none e1]
    refine ⟨rfl, ?_, ?_, Nat.zero_le _, .inl rfl⟩
    · show (List.map _ _).length ≤ _
      rw [List.length_map, List.length_range]
      omega
    · show (List.map _ _).length ≤ _
      rw [List.length_map, List.length_range]
      omega
  | some e =>
    rw [rowV_some e1]
    have g1 := leastEnd_gt e1
    have g2 := leastEnd_le e1
    have g3 := greatBeg_at (wl := rootL l) (inn := mi) (wr := rootL r) (st := st) (e := e)
    refine ⟨rfl, ?_, ?_, ?_, .inr ?_⟩
    · show (wordC _ _ _ _ _ _).length ≤ _
      rw [wordC_len]; omega
    · show (wordC _ _ _ _ _ _).length ≤ _
      rw [wordC_len]; omega
    · show (wordC _ _ _ _ _ _).length ≤ _
      rw [wordC_len]; omega
    · show _ ≤ greatBeg (rootL l) mi (rootL r) st e ∧ greatBeg (rootL l) mi (rootL r) st e ≤ _
      omega
theorem rowV_ok (h1 : l.length ≤ 240) (h2 : r.length ≤ 240) (h3 : mi.length ≤ 200) (h4 : -99500 ≤ st ∧ st ≤ 99500) : (rowV m l mi r st).ok = true := by
  obtain ⟨_, s1, s2, s3, s4⟩ := rowV_size (m := m) (l := l) (mi := mi) (r := r) (st := st)
  exact ok_yes (by omega) (by omega) (by omega) (by omega)
theorem rowV_ne (hl : l ≠ []) (hr : r ≠ []) : (rowV m l mi r st).left ≠ [] ∧ (rowV m l mi r st).right ≠ [] := by
  have p1 := List.length_pos_iff.mpr (rootL_ne hl)
  have p2 := List.length_pos_iff.mpr (rootL_ne hr)
  cases e1 : leastEnd (rootL l) mi (rootL r) st with
  | none =>
    rw [rowV_none e1]
    have : ((List.range (rootL r).length).map fun s => wheelAt (rootL r) ((s : Nat) - (st + mi.length))) ≠ [] := fun z => by
      have := congrArg List.length z
      rw [List.length_map, List.length_range, List.length_nil] at this
      omega
    exact ⟨this, this⟩
  | some e =>
    rw [rowV_some e1]
    have n : ∀ p k, 0 < k → wordC (rootL l) mi (rootL r) st p k ≠ [] := fun p k hk z => by
      have := congrArg List.length z
      rw [wordC_len, List.length_nil] at this
      omega
    exact ⟨n _ _ p1, n _ _ p2⟩
end
end PD
set_option Elab.async false
set_option linter.all false
set_option maxRecDepth 100000
set_option maxHeartbeats 4000000
/-! PD30: new objects with defaults; told rows as tuples. -/
namespace PD
open PySem PySem.Spec L2
section
variable {X : Cx} {f : Fm} {W : WX} {e : Expr} {es : List Expr} {wr : WA} {pos p : Pos} {sp : SpD} {dd : List D}
theorem px_makeD {cn : Str} {k : Nat} {fI C : Addr} {fd : FuncData} {ps : List Str} {dvs : List V} (M : Mk X.K C fI) (G : FnOk X.prog X.w X.K X.mg X.base (L2.CX X.prog X.w) k fI fd ps (spOf f.c sp)) (hr : Room (k + 1) X.A) (hg : Gl X cn) (hmg : X.mg = f.c.mg) (hm : X.mg cn = some (.ref C)) (hb : ∃ dsv, Vals dvs dsv ∧ Binds X.K fd ps dsv)
    (hdd : ∀ F, Reps f.c F dvs dd) (tk : Takes X W) (ha : PXA X f W (e :: es) wr) (hdb : (cn == ("__debug__" : Str)) = false := by decide) (he : starEach (e :: es) X.env = (false, eval e X.env) :: starEach es X.env := by rfl) (hpl : (backTo pos (starEach es X.env)).any (·.1) = false := by rfl) :
    PX X f W (.Call (.Name cn p) (e :: es) [] pos) (wMake cn sp dd wr) := by
  obtain ⟨dsv, h1, h2⟩ := hb
  exact px_make M G hr hg hmg hm h2 h1 hdd tk ha hdb he hpl
end
theorem iteT {b : Bool} {p q : Prop} (h : b = true) (k : p) : if b = true then p else q := by rw [if_pos h]; exact k
theorem iteF {b : Bool} {p q : Prop} (h : b = false) (k : q) : if b = true then p else q := by rw [if_neg (by rw [h]; decide)]; exact k
def rowT (m : Int) (l mi r : List Int) (st : Int) : D := .tup [.int m, .tup (l.map .int), .tup (mi.map .int), .tup (r.map .int), .int st]
structure GRow (m : Int) (l mi r : List Int) (st : Int) : Prop where
  hl : l ≠ []
  hr : r ≠ []
  zl : l.length ≤ 60
  zr : r.length ≤ 60
  zm : mi.length ≤ 200
  sl : Signs m l
  si : Signs m mi
  sr : Signs m r
  zs : -9000 ≤ st ∧ st ≤ 9000
theorem GRow.ok {m st : Int} {l mi r : List Int} (g : GRow m l mi r st) : (rowV m l mi r st).ok = true := by
  have := g.zl
  have := g.zr
  have := g.zm
  have := g.zs
  exact rowV_ok (by omega) (by omega) (by omega) (by omega)
def RowV.t (v : RowV) : D := rowT v.many v.left v.mid v.right v.at_
theorem rowV_cells {m st p : Int} {l mi r : List Int} {n : Nat} (hl : l ≠ []) (hr : r ≠ []) : wordC (rowV m l mi r st).left (rowV m l mi r st).mid (rowV m l mi r st).right (rowV m l mi r st).at_ p n = wordC l mi r st p n := by
  unfold wordC
  exact List.map_congr_left fun s _ => rowV_cell hl hr _
theorem rep_D {k : Nat} {w : List Int} : (List.replicate k (w.map D.int)).flatten = ((List.replicate k w).flatten).map .int := by
  rw [List.map_flatten, List.map_replicate]
theorem rep_signs {m : Int} {k : Nat} {w : List Int} (h : Signs m w) : Signs m (List.replicate k w).flatten := fun x hx => by
  obtain ⟨l, h1, h2⟩ := List.mem_flatten.mp hx
  rw [(List.mem_replicate.mp h1).2] at h2
  exact h x h2
theorem rep_len {k : Nat} {w : List Int} : (List.replicate k w).flatten.length = k * w.length := by
  rw [List.length_flatten, List.map_replicate, List.sum_replicate_nat]
theorem app_signs {m : Int} {a b : List Int} (h : Signs m a) (h2 : Signs m b) : Signs m (a ++ b) := fun x hx => (List.mem_append.mp hx).elim (h x) (h2 x)
end PD
set_option Elab.async false
set_option linter.all false
set_option maxRecDepth 100000
set_option maxHeartbeats 4000000
/-! PD31: wheels told many times; small equalities. -/
namespace PD
open PySem PySem.Spec L2
theorem wheel_rep {w : List Int} {k : Nat} (hk : 0 < k) (hw : w ≠ []) (i : Int) : wheelAt (List.replicate k w).flatten i = wheelAt w i := by
  have p := List.length_pos_iff.mpr hw
  have pk : 0 < k * w.length := Nat.mul_pos hk p
  unfold wheelAt
  rw [rep_len, List.getD_eq_getElem?_getD, List.getD_eq_getElem?_getD]
  have h0 := Int.emod_nonneg i (show ((k * w.length : Nat) : Int) ≠ 0 by omega)
  have h1 := Int.emod_lt_of_pos i (show (0 : Int) < ((k * w.length : Nat) : Int) by omega)
  rw [rep_flat_at (by omega)]
  have dv : (w.length : Int) ∣ ((k * w.length : Nat) : Int) := ⟨(k : Int), by rw [Int.natCast_mul, Int.mul_comm]⟩
  have em := Int.emod_emod_of_dvd i dv
  have e4 : (((i % ((k * w.length : Nat) : Int)).toNat % w.length : Nat) : Int) = i % (w.length : Int) := by
    rw [Int.natCast_emod, ← em, Int.toNat_of_nonneg h0]
  have e5 : (i % ((k * w.length : Nat) : Int)).toNat % w.length = (i % (w.length : Int)).toNat := by omega
  rw [e5]
theorem rep_ne {w : List Int} {k : Nat} (hk : 0 < k) (hw : w ≠ []) : (List.replicate k w).flatten ≠ [] := fun e => by
  have p := List.length_pos_iff.mpr hw
  have pk : 0 < k * w.length := Nat.mul_pos hk p
  have := congrArg List.length e
  rw [rep_len, List.length_nil] at this
  omega
theorem celAt_reps {l mi r : List Int} {st : Int} {j k : Nat} (hj : 0 < j) (hk : 0 < k) (hl : l ≠ []) (hr : r ≠ []) (p : Int) : celAt (List.replicate j l).flatten mi (List.replicate k r).flatten st p = celAt l mi r st p := by
  unfold celAt
  rw [wheel_rep hj hl, wheel_rep hk hr]
theorem nb_str2 {s t : Str} (h : PySem.PyData.strOk s = true) (h2 : PySem.PyData.strOk t = true) : (D.tup [.str s, .str t]).nb = true := by
  show (PySem.PyData.strOk s && (PySem.PyData.strOk t && true)) = true
  rw [h, h2]
  rfl
/-- a pair of texts is itself -/
theorem same2 {s t : Str} {P R : Prop} (h : PySem.PyData.strOk s = true) (h2 : PySem.PyData.strOk t = true) (q : R) : eqok (.tup [.str s, .str t]) ∧ eqok (.tup [.str s, .str t]) ∧ (if (not (eqv (.tup [.str s, .str t]) (.tup [.str s, .str t]))) = true then P else R) := by
  have e : eqok (.tup [.str s, .str t]) := eqok_of (nb_flat _ (nb_str2 h h2)) (by show max 0 (max 0 0) + 1 ≤ 64; decide)
  refine ⟨e, e, ?_⟩
  rw [(eqv_iff _ _ (nb_str2 h h2) (nb_str2 h h2)).mpr rfl]
  exact q
theorem ok_refused : PySem.PyData.strOk ("refused" : Str) = true := by decide +kernel
theorem ok_BadNumber : PySem.PyData.strOk ("BadNumber" : Str) = true := by decide +kernel
theorem ok_BadWord : PySem.PyData.strOk ("BadWord" : Str) = true := by decide +kernel
theorem ok_BadSigns : PySem.PyData.strOk ("BadSigns" : Str) = true := by decide +kernel
theorem ok_TooLong : PySem.PyData.strOk ("TooLong" : Str) = true := by decide +kernel
theorem ok_OtherSigns : PySem.PyData.strOk ("OtherSigns" : Str) = true := by decide +kernel
theorem sm_cw {k : Int} {a : List Int} (h1 : a.length ≤ 100000) : (D.lst [.int k, .tup (a.map .int)]).sm = true := by
  show (true && ((D.int k).sm && ((D.tup (a.map .int)).sm && true))) = true
  rw [sm_word h1]
  rfl
theorem dep_cw {k : Int} {a : List Int} : (D.lst [.int k, .tup (a.map .int)]).dep < 6 := by
  show max 0 (max (D.tup (a.map .int)).dep 0) + 1 < 6
  rw [dep_word]
  decide
theorem nb_two {a b : List Int} : (D.tup [.tup (a.map .int), .tup (b.map .int)]).nb = true := by
  show ((D.tup (a.map .int)).nb && ((D.tup (b.map .int)).nb && true)) = true
  rw [nb_word, nb_word]
  rfl
theorem eqok_two {a b : List Int} : eqok (.tup [.tup (a.map .int), .tup (b.map .int)]) := eqok_of (nb_flat _ nb_two) (by
  show max (D.tup (a.map .int)).dep (max (D.tup (b.map .int)).dep 0) + 1 ≤ 64
  rw [dep_word, dep_word]
  decide)
end PD
set_option Elab.async false
set_option linter.all false
set_option maxRecDepth 100000
set_option maxHeartbeats 4000000
/-! PD32: texts: str(..), join, f-strings. -/
namespace PD
open PySem PySem.Spec L2
section
variable {X : Cx} {f : Fm} {W : WX} {a b o e : Expr} {es : List Expr} {wa wb wo : WE} {pos p apos : Pos} {env : Ev} {μ : Mu} {σ : L2.St} {F H : Hp} {cn : Str} {sp : SpD} {C g : Addr}
/-- str of a number -/
def dStrI (x : D) (Q : R → Prop) : Prop := match x with
  | .int i => i.natAbs.log2 < 1920 ∧ Q (.fz (.str (toString i)))
  | _ => False
theorem px_strI (hm : X.mg "str" = none) (ha : PX X f W a wa) (gl : Gl X "str" := by rfl) (hs : starEach [a] X.env = (false, eval a X.env) :: starEach [] X.env := by rfl) (hpl : (backTo pos (starEach [] X.env)).any (·.1) = false := by rfl) :
    PX X f W (.Call (.Name "str" p) [a] [] pos) (wUn dStrI wa) := px_callTy call_str_int (fun env μ σ F H r1 v1 Q Qp rel rz h k => by
  cases e1 : r1.d <;> rw [e1] at h <;> first | exact h.elim | skip
  exact ⟨_, by rw [rz.int e1], h.1, k (.fz _) _ F H rel (Same.refl _) (.str _) h.2⟩) gl hm (by decide +kernel) ha (by decide) (by decide) hs hpl
/-- str of an own object -/
def wStrO (cn : Str) (sp : SpD) (wa : WE) : WE := fun env μ Q E => wa env μ (fun r1 μ1 => (∃ ns vs, r1.d = .ins cn ns vs) ∧ sp [r1.d] μ1 (fun r μ2 => ∃ y, r = .fz (.str y) ∧ Q (.fz (.str y)) μ2) E) E
structure StrR (X : Cx) (c : Cfg) (cn : Str) (sp : SpD) : Prop where
  to : ∃ (C g : Addr) (k : Nat) (fd : FuncData) (ps : List Str), c.mg cn = some (.ref C) ∧ OIsi c.K C ∧ PySem.W.findIn c.K (.ref C) "__str__" = some (some (.ref g)) ∧ PySem.W.isFn c.K (.ref g) = true ∧
    FnOk X.prog X.w X.K X.mg X.base (L2.CX X.prog X.w) k g fd ps (spOf c sp) ∧ Room (k + 2) X.A ∧ Binds X.K fd ps []
theorem px_strO (hK : X.K = f.c.K) (ow : StrR X f.c cn sp) (tk : Takes X W) (hm : X.mg "str" = none) (ha : PX X f W a wa) (gl : Gl X "str" := by rfl) (hs : starEach [a] X.env = (false, eval a X.env) :: starEach [] X.env := by rfl) (hpl : (backTo pos (starEach [] X.env)).any (·.1) = false := by rfl) :
    PX X f W (.Call (.Name "str" p) [a] [] pos) (wStrO cn sp wa) := by
  refine ⟨fun pins s σ H Q I h => ?_⟩
  obtain ⟨C, g, k, fd, ps, g1, g2, g4, g5, g6, g7, g8⟩ := ow.to
  have h1 : Lf f W wa σ H fun v0 H1 => ∃ v, [v0] = [v] ∧ ∃ (x : Addr), v = .ref x ∧ (∃ dx fs, H1 x = some (.ins C dx fs)) ∧ spOf f.c sp [v] H1 (fun z H' => ∃ y, z = .str y ∧ Q (.str y) H') (L2.WE W σ) := by
    obtain ⟨env, μ, F, Qp, Ep, rel, hw, k', kx⟩ := h
    refine ⟨env, μ, F, _, Ep, rel, hw, fun r1 μ1 v1 F1 H1 rel1 e1 rr1 q1 => ?_, kx⟩
    obtain ⟨F2, rel2, e2, rz⟩ := settle rel1 rr1
    obtain ⟨⟨ns, vs, en⟩, hsp⟩ := q1
    obtain ⟨x, dx, fs, ev, hx, _⟩ := own_ty hK g1 g2 rel2 rz en
    refine ⟨v1, rfl, x, ev, ⟨dx, fs, hx⟩, ?_⟩
    refine sp_of rel2 (.cons (by rw [en]; exact rz_ins rz en) .nil) hsp (fun r μ3 v F3 H3 rel3 e3 rr3 q3 => ?_) fun x μ3 cls d F3 H3 rel3 e3 xr q3 => kx x μ3 cls d F3 H3 rel3 ((e1.trans e2).trans e3) xr q3
    obtain ⟨y, rfl, q⟩ := q3
    have rb : Rep f.c F3 v (.str y) := rr3
    cases rb
    exact ⟨y, rfl, k' (.fz (.str y)) μ3 (.str y) F3 H3 rel3 ((e1.trans e2).trans e3) (.str _) q⟩
  refine wpAny_Call_Name_kw (ld_blt I gl hm (show bootBuiltins "str" = some (.type "str") from boot_ty_str) ?_ (by decide) (by decide))
  refine PyProof.Rows.callWith_type1 (thn ((pa_cons ha pa_nil hs).run pos pins s σ H (fun vs H1 => ∃ v, vs = [v] ∧ ∃ (x : Addr), v = .ref x ∧ (∃ dx fs, H1 x = some (.ins C dx fs)) ∧ spOf f.c sp [v] H1 (fun z H' => ∃ y, z = .str y ∧ Q (.str y) H') (L2.WE W σ)) I
    h1) fun us s1 hv => ?_) hs hpl
  obtain ⟨vs, H1, I1, r1, v, rfl, x, rfl, ⟨dx, fs, hx⟩, q⟩ := hv
  obtain ⟨u, rfl, ru⟩ := vals1 r1
  obtain rfl : u = Value.ref x := ru
  obtain ⟨mA, J, _⟩ := ins_get I1.hok hx
  obtain ⟨od, J, _⟩ := J.look
  refine PySem.W.kso_call (Room.in1 (Room.in1 g7)).units0 I1.kIn J (by rw [hK]; exact g4) (by rw [hK]; exact g5) ?_
  refine wpAny_mono (run_fnA (E := L2.WE W σ) (us := [.ref x]) (vs := [.ref x]) g6 (Room.in1 (Room.in1 g7)) I1.env0.in1.in1 g8 (passAt tk σ) I1 (.cons rfl .nil) q) (fun r s' hq => ?_) fun _ _ e => e
  obtain ⟨z, H', I', rz, y, rfl, q'⟩ := hq
  obtain ⟨t, rfl⟩ := rz
  exact ⟨.str y, H', I', ⟨_, rfl⟩, q'⟩
/-! join -/
def strsOf : List D → Option (List Str)
  | [] => some []
  | .str s :: l => (strsOf l).map (s :: ·)
  | _ :: _ => none
theorem strsOf_map {α : Type} {g : α → Str} : ∀ l : List α, strsOf (l.map fun x => .str (g x)) = some (l.map g)
  | [] => rfl
  | x :: l => by
    show (strsOf (l.map fun x => D.str (g x))).map (g x :: ·) = _
    rw [strsOf_map l]
    rfl
theorem reps_strs {c : Cfg} : ∀ {l : List D} {xs : List V} {bs : List Str}, Reps c F xs l → strsOf l = some bs → xs = bs.map V.str
  | [], _, _, .nil, h => by
    cases h
    rfl
  | d :: l, _, bs, .cons (v := v) r1 r2, h => by
    cases d <;> first | (cases h; done) | skip
    rename_i s
    have h : (strsOf l).map (s :: ·) = some bs := h
    cases e : strsOf l with
    | none => rw [e] at h; cases h
    | some bs' =>
      rw [e] at h
      cases h
      cases r1
      rw [reps_strs r2 e]
      rfl
def dJoin (s : Str) (y : D) (Q : R → Prop) : Prop := ∃ (l : List D) (ys : List Str), y = .lst l ∧ strsOf l = some ys ∧ (ys.map (·.length)).sum + ys.length * s.length ≤ 16777216 ∧ Q (.fz (.str (Txt.join s ys)))
def wJoin (wo wa : WE) : WE := fun env μ Q E => wo env μ (fun r1 μ1 => ∃ s, r1.d = .str s ∧ wa env μ1 (fun r2 μ2 => dJoin s r2.d fun r => Q r μ2) E) E
theorem px_join (hK : X.K = f.c.K) (ho : PX X f W o wo) (ha : PX X f W a wa) (hs : starEach [a] X.env = [(false, eval a X.env)] := by rfl) (hbase : attributeBase o "join" X.env (eval o X.env) = eval o X.env := by rfl) (hline : (apos.endLine == pos.line) = true := by rfl) :
    PX X f W (.Call (.Attribute o "join" apos) [a] [] pos) (wJoin wo wa) :=
  pe_imp (pe_join ho ha hs hbase hline) fun σ H Q h => by
    obtain ⟨env, μ, F, Qp, Ep, rel, hw, k', kx⟩ := h
    refine ⟨env, μ, F, _, Ep, rel, hw, fun r1 μ1 v1 F1 H1 rel1 e1 rr1 q1 => ?_, kx⟩
    obtain ⟨F1', rel1', e1', rz1⟩ := settle rel1 rr1
    obtain ⟨s, es, q2⟩ := q1
    have ev := rz1.str es
    subst ev
    refine ⟨⟨s, rfl⟩, env, μ1, F1', _, Ep, rel1', q2, fun r2 μ2 v2 F2 H2 rel2 e2 rr2 q3 => ?_, fun x μ2 cls d F2 H2 rel2 e2 xr q2 => kx x μ2 cls d F2 H2 rel2 ((e1.trans e1').trans e2) xr q2⟩
    obtain ⟨F2', rel2', e2', rz2⟩ := settle rel2 rr2
    obtain ⟨l, ys, el, ey, hz, q4⟩ := q3
    obtain ⟨p, xs, rfl, h1, h2⟩ := rz2.lst rel2' el
    have exs := reps_strs h2 ey
    subst exs
    exact ⟨s, p, ys, rfl, rfl, .inl (SqL.of h1), hz, k' (.fz (.str (Txt.join s ys))) μ2 (.str (Txt.join s ys)) F2' H2 rel2' (((e1.trans e1').trans e2).trans e2') (.str _) q4⟩
/-! f-strings -/
def dFmt (x : D) (Q : R → Prop) : Prop := match x with
  | .str y => y.length ≤ sizeLine ∧ Q (.fz (.str y))
  | .int i => i.natAbs.log2 < 1920 ∧ Q (.fz (.str (toString i)))
  | _ => False
theorem px_fmt (ha : PX X f W a wa) : PX X f W (.FormattedValue a (-1) none pos) (wUn dFmt wa) := pe_imp (pe_fmt ha) fun σ H Q h =>
  lf1k (g := fun r0 env μ0 Qp Ep => dFmt r0.d fun r => Qp r μ0) (r := fun x σ H1 Q => (∃ y : Str, x = .str y ∧ y.length ≤ sizeLine ∧ Q (.str y) H1) ∨ ∃ i : Int, x = .int i ∧ i.natAbs.log2 < 1920 ∧ Q (.str (toString i)) H1) (fun r0 v σ H Q ⟨env, μ, F, Qp, Ep, rel, rz, q, k, kx⟩ => by
    cases e1 : r0.d <;> rw [e1] at q <;> first | exact q.elim | skip
    · exact .inr ⟨_, by rw [rz.int e1], q.1, k (.fz _) μ _ F H rel (Same.refl _) (.str _) q.2⟩
    · exact .inl ⟨_, by rw [rz.str e1], q.1, k (.fz _) μ _ F H rel (Same.refl _) (.str _) q.2⟩) σ H Q h
def wJs : List WE → Str → Ev → Mu → (Str → Mu → Prop) → (Exc → Mu → Prop) → Prop
  | [], acc, _, μ, Q, _ => Q acc μ
  | w :: ws, acc, env, μ, Q, E => w env μ (fun r μ1 => ∃ y, r.d = .str y ∧ (acc ++ y).length ≤ sizeLine ∧ wJs ws (acc ++ y) env μ1 Q E) E
def wFStr (ws : List WE) : WE := fun env μ Q E => wJs ws Str.empty env μ (fun y μ1 => Q (.fz (.str y)) μ1) E
inductive PXJ (X : Cx) (f : Fm) (W : WX) : List Expr → List WE → Prop where
  | nil : PXJ X f W [] []
  | cons {e : Expr} {w : WE} {es : List Expr} {ws : List WE} (h : PX X f W e w) (r : PXJ X f W es ws) : PXJ X f W (e :: es) (w :: ws)
theorem PXJ.to {es : List Expr} {ws : List WE} (h : PXJ X f W es ws) : PJ X es (ws.map (Lf f W)) := by
  induction h with
  | nil => exact .nil
  | cons h _ ih => exact .cons h ih
theorem js_of {Q : VK} {Qp : R → Mu → Prop} {Ep : Exc → Mu → Prop} {env : Ev} : ∀ (ws : List WE) (acc : Str) (μ : Mu) (F H : Hp), Rel f env μ σ F H → wJs ws acc env μ (fun y μ1 => Qp (.fz (.str y)) μ1) Ep →
    (∀ r μ' v F' H', Rel f env μ' σ F' H' → Same F F' → RR f env μ' σ F' H' v r → Qp r μ' → Q v H') → (∀ x μ' cls d F' H', Rel f env μ' σ F' H' → Same F F' → XR f.c F' H' x cls d → Ep x μ' → W cls d σ H') →
    tJs (ws.map (Lf f W)) acc σ H fun out H1 => Q (.str out) H1
  | [], acc, μ, F, H, rel, h, k, _ => k (.fz (.str acc)) μ (.str acc) F H rel (Same.refl _) (.str _) h
  | w :: ws, acc, μ, F, H, rel, h, k, kx => by
    refine ⟨env, μ, F, _, Ep, rel, h, fun r μ1 v F1 H1 rel1 e1 rr1 q1 => ?_, kx⟩
    obtain ⟨F2, rel2, e2, rz⟩ := settle rel1 rr1
    obtain ⟨y, ey, hz, q2⟩ := q1
    exact ⟨y, rz.str ey, hz, js_of ws (acc ++ y) μ1 F2 H1 rel2 q2 (fun r μ' v F' H' r1 e r2 q => k r μ' v F' H' r1 ((e1.trans e2).trans e) r2 q) fun x μ' cls d F' H' r1 e r2 q => kx x μ' cls d F' H' r1 ((e1.trans e2).trans e) r2 q⟩
theorem px_fstr {v1 v2 : Expr} {rest : List Expr} {ws : List WE} (h : PXJ X f W (v1 :: v2 :: rest) ws) : PX X f W (.JoinedStr (v1 :: v2 :: rest) pos) (wFStr ws) :=
  pe_imp (pe_joined h.to) fun σ H Q h => by
    obtain ⟨env, μ, F, Qp, Ep, rel, hw, k, kx⟩ := h
    exact js_of ws Str.empty μ F H rel hw k kx
end
end PD
set_option Elab.async false
set_option linter.all false
set_option maxRecDepth 100000
set_option maxHeartbeats 4000000
/-! PD33: rows cut out of cells; a row's text. -/
namespace PD
open PySem PySem.Spec L2
/-- cells told from two bounds -/
theorem celAt_cut {d : Int → Int} {a b : Nat} {low high : Int} (ha : 0 < a) (hb : 0 < b) (hlh : low ≤ high) (hL : ∀ p, p < low → d (p - a) = d p) (hR : ∀ p, high ≤ p → d (p + b) = d p) {W1 M W2 : List Int}
    (e1 : W1 = (List.range a).map fun s => d (low - a + (s : Nat))) (e2 : M = (List.range (high - low).toNat).map fun s => d (low + (s : Nat))) (e3 : W2 = (List.range b).map fun s => d (high + (s : Nat))) (p : Int) : celAt W1 M W2 low p = d p := by
  have lM : (M.length : Int) = high - low := by rw [e2, List.length_map, List.length_range]; omega
  have left : ∀ (j : Nat) (y : Int), y + a * j < low → d y = d (y + a * j) := by
    intro j
    induction j with
    | zero => intro y _; simp
    | succ j ih =>
      intro y hy
      have em : (a : Int) * ((j + 1 : Nat) : Int) = a * (j : Int) + a := by rw [Int.natCast_add, Int.mul_add]; simp
      rw [em] at hy ⊢
      rw [ih y (by omega), ← hL (y + (a * (j : Int) + a)) (by omega)]
      congr 1
      omega
  have right : ∀ (j : Nat) (y : Int), high ≤ y → d (y + b * j) = d y := by
    intro j
    induction j with
    | zero => intro y _; simp
    | succ j ih =>
      intro y hy
      have em : (b : Int) * ((j + 1 : Nat) : Int) = b * (j : Int) + b := by rw [Int.natCast_add, Int.mul_add]; simp
      have nn : (0 : Int) ≤ (b : Int) * (j : Int) := Int.mul_nonneg (by omega) (by omega)
      rw [em, show y + ((b : Int) * (j : Int) + b) = y + b * (j : Int) + b by omega, hR _ (by omega), ih y hy]
  by_cases h1 : p < low
  · rw [celAt_l h1, wheel_get e1 ha]
    have h0 := Int.emod_nonneg (p - low) (show (a : Int) ≠ 0 by omega)
    have h2 := Int.emod_lt_of_pos (p - low) (show (0 : Int) < a by omega)
    have hd := Int.mul_ediv_add_emod (p - low) a
    have hq : (p - low) / (a : Int) < 0 := Int.ediv_neg_of_neg_of_pos (by omega) (by omega)
    obtain ⟨j, hj⟩ : ∃ j : Nat, (j : Int) = -1 - (p - low) / (a : Int) := ⟨(-1 - (p - low) / (a : Int)).toNat, by omega⟩
    rw [show (((p - low) % (a : Int)).toNat : Int) = (p - low) % (a : Int) by omega]
    have ej : (a : Int) * (j : Int) = -(a : Int) - a * ((p - low) / (a : Int)) := by rw [hj, Int.mul_sub]; omega
    have := left j p (by rw [ej]; omega)
    rw [this, ej]
    congr 1
    omega
  · by_cases h2 : p < high
    · have := celAt_m (wl := W1) (inn := M) (wr := W2) (st := low) (i := (p - low).toNat) (by omega)
      rw [show low + (((p - low).toNat : Nat) : Int) = p by omega] at this
      rw [this, e2, List.getD_eq_getElem?_getD, List.getElem?_map, List.getElem?_range (by omega)]
      show d (low + (((p - low).toNat : Nat) : Int)) = _
      rw [show low + (((p - low).toNat : Nat) : Int) = p by omega]
    · rw [celAt_right (by omega), wheel_get e3 hb]
      have h0 := Int.emod_nonneg (p - (low + M.length)) (show (b : Int) ≠ 0 by omega)
      have hd := Int.mul_ediv_add_emod (p - (low + M.length)) b
      have hq : 0 ≤ (p - (low + M.length)) / (b : Int) := Int.ediv_nonneg (by omega) (by omega)
      obtain ⟨j, hj⟩ : ∃ j : Nat, (j : Int) = (p - (low + M.length)) / (b : Int) := ⟨((p - (low + M.length)) / (b : Int)).toNat, by omega⟩
      rw [show (((p - (low + M.length)) % (b : Int)).toNat : Int) = (p - (low + M.length)) % (b : Int) by omega]
      have := right j (high + (p - (low + M.length)) % (b : Int)) (by omega)
      rw [← this, hj]
      congr 1
      omega
theorem wheel_sign {m : Int} {w : List Int} (hw : w ≠ []) (h : Signs m w) (i : Int) : 0 ≤ wheelAt w i ∧ wheelAt w i < m := by
  have p := List.length_pos_iff.mpr hw
  have h0 := Int.emod_nonneg i (show (w.length : Int) ≠ 0 by omega)
  have h1 := Int.emod_lt_of_pos i (show (0 : Int) < w.length by omega)
  have : w[(i % (w.length : Int)).toNat]? = some (wheelAt w i) := by
    unfold wheelAt
    rw [List.getD_eq_getElem?_getD, List.getElem?_eq_getElem (by omega)]
    rfl
  exact h _ (List.mem_of_getElem? this)
theorem cel_sign {m st : Int} {l mi r : List Int} (hl : l ≠ []) (hr : r ≠ []) (sl : Signs m l) (si : Signs m mi) (sr : Signs m r) (p : Int) : 0 ≤ celAt l mi r st p ∧ celAt l mi r st p < m := by
  unfold celAt
  split
  · exact wheel_sign hl sl _
  · split
    · have : mi[(p - st).toNat]? = some (mi.getD (p - st).toNat 0) := by
        rw [List.getD_eq_getElem?_getD, List.getElem?_eq_getElem (by omega)]
        rfl
      exact si _ (List.mem_of_getElem? this)
    · exact wheel_sign hr sr _
theorem word_signs {m st p : Int} {l mi r : List Int} {n : Nat} (hl : l ≠ []) (hr : r ≠ []) (sl : Signs m l) (si : Signs m mi) (sr : Signs m r) : Signs m (wordC l mi r st p n) := fun k hk => by
  unfold wordC at hk
  obtain ⟨s, _, rfl⟩ := List.mem_map.mp hk
  exact cel_sign hl hr sl si sr _
theorem rowV_signs {m st : Int} {l mi r : List Int} (hl : l ≠ []) (hr : r ≠ []) (sl : Signs m l) (si : Signs m mi) (sr : Signs m r) : Signs m (rowV m l mi r st).left ∧ Signs m (rowV m l mi r st).mid ∧ Signs m (rowV m l mi r st).right := by
  have n1 := rootL_ne hl
  have n2 := rootL_ne hr
  have t1 : Signs m (rootL l) := fun k hk => sl k (rootL_mem hk)
  have t2 : Signs m (rootL r) := fun k hk => sr k (rootL_mem hk)
  cases e : leastEnd (rootL l) mi (rootL r) st with
  | none =>
    rw [rowV_none e]
    have : Signs m ((List.range (rootL r).length).map fun s => wheelAt (rootL r) ((s : Nat) - (st + mi.length))) := fun k hk => by
      obtain ⟨s, _, rfl⟩ := List.mem_map.mp hk
      exact wheel_sign n2 t2 _
    exact ⟨this, (fun k hk => absurd hk (by simp)), this⟩
  | some e1 =>
    rw [rowV_some e]
    exact ⟨word_signs n1 n2 t1 si t2, word_signs n1 n2 t1 si t2, word_signs n1 n2 t1 si t2⟩
/-! texts -/
def figS (w : List Int) : Str := Txt.join "" (w.map fun k => (toString k : Str))
theorem txt_len {i : Int} (h : i.natAbs < 10 ^ 25) : ((toString i : Str)).length ≤ 26 := by
  have e := int_text_length_le10 (k := 25) (by decide) h
  have : ((toString i : Str)).length = (toString i : String).length := ofString_length _
  rw [this]
  exact e
theorem figS_len {w : List Int} (h : ∀ k ∈ w, k.natAbs < 10 ^ 25) : ((w.map fun k => (toString k : Str)).map (·.length)).sum ≤ w.length * 26 ∧ (figS w).length ≤ w.length * 26 := by
  have s1 : ∀ w : List Int, (∀ k ∈ w, k.natAbs < 10 ^ 25) → ((w.map fun k => (toString k : Str)).map (·.length)).sum ≤ w.length * 26 := by
    intro w
    induction w with
    | nil => intro _; exact Nat.zero_le _
    | cons k w ih =>
      intro h
      have a := txt_len (h k (List.mem_cons_self ..))
      have b := ih fun k hk => h k (List.mem_cons_of_mem _ hk)
      rw [List.map_cons, List.map_cons, List.sum_cons, List.length_cons, Nat.succ_mul]
      omega
  refine ⟨s1 w h, ?_⟩
  unfold figS
  rw [TL.join_eq]
  have := StrLaws.join_length_le "" (w.map fun k => (toString k : Str))
  have z : ("" : Str).length = 0 := by decide
  rw [z, Nat.mul_zero, Nat.add_zero] at this
  exact Nat.le_trans this (s1 w h)
/-- a told row's values are in order -/
structure GV (v : RowV) : Prop where
  hm : 2 ≤ v.many ∧ v.many ≤ 4
  n1 : v.left ≠ []
  n2 : v.right ≠ []
  s1 : Signs v.many v.left
  s2 : Signs v.many v.mid
  s3 : Signs v.many v.right
  z1 : v.left.length ≤ 240
  z2 : v.right.length ≤ 240
  z3 : v.mid.length ≤ 200
  z4 : -100000 ≤ v.at_ ∧ v.at_ ≤ 100000
theorem GV.of {m st : Int} {l mi r : List Int} (hm : 2 ≤ m ∧ m ≤ 4) (hl : l ≠ []) (hr : r ≠ []) (sl : Signs m l) (si : Signs m mi) (sr : Signs m r) (ok : (rowV m l mi r st).ok = true) : GV (rowV m l mi r st) := by
  obtain ⟨e, _⟩ := rowV_size (m := m) (l := l) (mi := mi) (r := r) (st := st)
  obtain ⟨n1, n2⟩ := rowV_ne (m := m) (mi := mi) (st := st) hl hr
  obtain ⟨t1, t2, t3⟩ := rowV_signs (st := st) hl hr sl si sr
  unfold RowV.ok at ok
  simp only [Bool.and_eq_true, decide_eq_true_eq] at ok
  exact ⟨by rw [e]; exact hm, n1, n2, by rw [e]; exact t1, by rw [e]; exact t2, by rw [e]; exact t3, by omega, by omega, by omega, by omega⟩
def RowV.cells (v : RowV) (p : Int) (n : Nat) : List Int := wordC v.left v.mid v.right v.at_ p n
theorem RowV.cells_len {v : RowV} {p : Int} {n : Nat} : (v.cells p n).length = n := wordC_len
theorem GV.cells {v : RowV} (g : GV v) {p : Int} {n : Nat} : Signs v.many (v.cells p n) := word_signs g.n1 g.n2 g.s1 g.s2 g.s3
def RowV.fin (v : RowV) : Int := v.at_ + v.mid.length
def paintM (v : RowV) (p : Int) (w : List Int) (low high : Int) : List Int := v.cells low (p - low).toNat ++ w ++ v.cells (p + w.length) (high - p - w.length).toNat
def paintV (v : RowV) (p : Int) (w : List Int) (low high : Int) : RowV := rowV v.many (v.cells (low - v.left.length) v.left.length) (paintM v p w low high) (v.cells high v.right.length) low
def spliceM (v u : RowV) (c low high : Int) : List Int := v.cells low (c - low).toNat ++ u.cells c (high - c).toNat
def spliceV (v u : RowV) (c low high : Int) : RowV := rowV v.many (v.cells (low - v.left.length) v.left.length) (spliceM v u c low high) (u.cells high u.right.length) low
def midS (w : List Int) : Str := if w = [] then "-" else figS w
def rowS (v : RowV) : Str := Str.empty ++ (toString v.many : Str) ++ " (" ++ figS v.left ++ ") " ++ midS v.mid ++ " (" ++ figS v.right ++ ") @" ++ (toString v.at_ : Str)
end PD
set_option Elab.async false
set_option linter.all false
set_option maxRecDepth 100000
set_option maxHeartbeats 4000000
/-! PD34: rows moved, painted, spliced. -/
namespace PD
open PySem PySem.Spec L2
/-- the cells of a row with a word put in -/
def pntC (c : Int → Int) (k : Int) (w : List Int) (p : Int) : Int := if k ≤ p ∧ p < k + w.length then w.getD (p - k).toNat 0 else c p
/-- the cells of one row ahead of a place, of another from there on -/
def splC (c c' : Int → Int) (k : Int) (p : Int) : Int := if p < k then c p else c' p
section
variable {l mi r l' mi' r' w : List Int} {st st' m k low high : Int}
theorem celAt_shift (p : Int) : celAt l mi r (st + k) p = celAt l mi r st (p - k) := by
  unfold celAt
  rw [show p - (st + k) = p - k - st by omega, show p - (st + k + mi.length) = p - k - (st + mi.length) by omega]
  by_cases h1 : p < st + k
  · rw [if_pos h1, if_pos (by omega)]
  · rw [if_neg h1, if_neg (show ¬ p - k < st by omega)]
    by_cases h2 : p < st + k + mi.length
    · rw [if_pos h2, if_pos (by omega)]
    · rw [if_neg h2, if_neg (by omega)]
theorem left_per (hl : l ≠ []) {p : Int} (h : p < st) : celAt l mi r st (p - l.length) = celAt l mi r st p := by
  rw [celAt_l h, celAt_l (by omega)]
  have e : wheelAt l (p - l.length - st + l.length) = wheelAt l (p - l.length - st) := wheel_per0 _
  rw [← e, show p - (l.length : Int) - st + l.length = p - st by omega]
theorem right_per {p : Int} (h : st + mi.length ≤ p) : celAt l mi r st (p + r.length) = celAt l mi r st p := by
  rw [celAt_right h, celAt_right (by omega)]
  have e : wheelAt r (p - (st + mi.length) + r.length) = wheelAt r (p - (st + mi.length)) := wheel_per0 _
  rw [← e, show p + (r.length : Int) - (st + mi.length) = p - (st + mi.length) + r.length by omega]
theorem pnt_cut (hl : l ≠ []) (hr : r ≠ []) (h1 : low ≤ st) (h2 : st + mi.length ≤ high) (h3 : low ≤ k) (h4 : k + w.length ≤ high) (p : Int) :
    celAt (wordC l mi r st (low - l.length) l.length) ((List.range (high - low).toNat).map fun s => pntC (celAt l mi r st) k w (low + (s : Nat))) (wordC l mi r st high r.length) low p = pntC (celAt l mi r st) k w p := by
  have pl := List.length_pos_iff.mpr hl
  have pr := List.length_pos_iff.mpr hr
  have lo : ∀ q, q < low → pntC (celAt l mi r st) k w q = celAt l mi r st q := fun q hq => if_neg (by omega)
  have hi : ∀ q, high ≤ q → pntC (celAt l mi r st) k w q = celAt l mi r st q := fun q hq => if_neg (by omega)
  refine celAt_cut (d := pntC (celAt l mi r st) k w) (a := l.length) (b := r.length) pl pr (by omega) (fun q hq => ?_) (fun q hq => ?_) ?_ rfl ?_ p
  · rw [lo _ (by omega), lo _ hq]
    exact left_per hl (by omega)
  · rw [hi _ (by omega), hi _ hq]
    exact right_per (by omega)
  · unfold wordC
    refine List.map_congr_left fun s hs => ?_
    have := List.mem_range.mp hs
    exact (lo _ (by omega)).symm
  · unfold wordC
    refine List.map_congr_left fun s hs => ?_
    exact (hi _ (by omega)).symm
theorem spl_cut (hl : l ≠ []) (hr : r' ≠ []) (h1 : low ≤ st) (h2 : st' + mi'.length ≤ high) (h3 : low ≤ k) (h4 : k ≤ high) (p : Int) :
    celAt (wordC l mi r st (low - l.length) l.length) ((List.range (high - low).toNat).map fun s => splC (celAt l mi r st) (celAt l' mi' r' st') k (low + (s : Nat))) (wordC l' mi' r' st' high r'.length) low p = splC (celAt l mi r st) (celAt l' mi' r' st') k p := by
  have pl := List.length_pos_iff.mpr hl
  have pr := List.length_pos_iff.mpr hr
  have lo : ∀ q, q < low → splC (celAt l mi r st) (celAt l' mi' r' st') k q = celAt l mi r st q := fun q hq => if_pos (by omega)
  have hi : ∀ q, high ≤ q → splC (celAt l mi r st) (celAt l' mi' r' st') k q = celAt l' mi' r' st' q := fun q hq => if_neg (by omega)
  refine celAt_cut (d := splC (celAt l mi r st) (celAt l' mi' r' st') k) (a := l.length) (b := r'.length) pl pr (by omega) (fun q hq => ?_) (fun q hq => ?_) ?_ rfl ?_ p
  · rw [lo _ (by omega), lo _ hq]
    exact left_per hl (by omega)
  · rw [hi _ (by omega), hi _ hq]
    exact right_per (by omega)
  · unfold wordC
    refine List.map_congr_left fun s hs => ?_
    have := List.mem_range.mp hs
    exact (lo _ (by omega)).symm
  · unfold wordC
    refine List.map_congr_left fun s hs => ?_
    exact (hi _ (by omega)).symm
theorem range_add_map {α : Type} {f : Nat → α} {a b : Nat} : (List.range (a + b)).map f = (List.range a).map f ++ (List.range b).map fun s => f (a + s) := by
  rw [List.range_add, List.map_append, List.map_map]
  rfl
theorem getD_all : (List.range w.length).map (fun s => w.getD s 0) = w := by
  apply List.ext_getElem?
  intro i
  by_cases h : i < w.length
  · rw [List.getElem?_map, List.getElem?_range h, List.getElem?_eq_getElem h]
    show some (w.getD i 0) = _
    rw [List.getD_eq_getElem?_getD, List.getElem?_eq_getElem h]
    rfl
  · rw [List.getElem?_eq_none_iff.mpr (by rw [List.length_map, List.length_range]; omega), List.getElem?_eq_none_iff.mpr (by omega)]
theorem paintM_eq {v : RowV} (h3 : low ≤ k) (h4 : k + w.length ≤ high) : paintM v k w low high = (List.range (high - low).toNat).map fun s => pntC (celAt v.left v.mid v.right v.at_) k w (low + (s : Nat)) := by
  unfold paintM RowV.cells wordC
  rw [show (high - low).toNat = (k - low).toNat + w.length + (high - k - w.length).toNat by omega, range_add_map, range_add_map]
  have e1 : (List.range (k - low).toNat).map (fun s => pntC (celAt v.left v.mid v.right v.at_) k w (low + ((s : Nat) : Int))) = (List.range (k - low).toNat).map fun s => celAt v.left v.mid v.right v.at_ (low + ((s : Nat) : Int)) := by
    refine List.map_congr_left fun s hs => ?_
    have := List.mem_range.mp hs
    exact if_neg (by omega)
  have e2 : (List.range w.length).map (fun s => pntC (celAt v.left v.mid v.right v.at_) k w (low + (((k - low).toNat + s : Nat) : Int))) = w := by
    refine Eq.trans (List.map_congr_left fun s hs => ?_) (getD_all (w := w))
    have := List.mem_range.mp hs
    unfold pntC
    rw [if_pos (by omega)]
    congr 1
    omega
  have e3 : (List.range (high - k - w.length).toNat).map (fun s => pntC (celAt v.left v.mid v.right v.at_) k w (low + (((k - low).toNat + w.length + s : Nat) : Int))) = (List.range (high - k - w.length).toNat).map fun s => celAt v.left v.mid v.right v.at_ (k + w.length + ((s : Nat) : Int)) := by
    refine List.map_congr_left fun s hs => ?_
    unfold pntC
    rw [if_neg (by omega)]
    congr 1
    omega
  rw [e1, e2, e3]
theorem spliceM_eq {v u : RowV} (h3 : low ≤ k) (h4 : k ≤ high) : spliceM v u k low high = (List.range (high - low).toNat).map fun s => splC (celAt v.left v.mid v.right v.at_) (celAt u.left u.mid u.right u.at_) k (low + (s : Nat)) := by
  unfold spliceM RowV.cells wordC
  rw [show (high - low).toNat = (k - low).toNat + (high - k).toNat by omega, range_add_map]
  have e1 : (List.range (k - low).toNat).map (fun s => splC (celAt v.left v.mid v.right v.at_) (celAt u.left u.mid u.right u.at_) k (low + ((s : Nat) : Int))) = (List.range (k - low).toNat).map fun s => celAt v.left v.mid v.right v.at_ (low + ((s : Nat) : Int)) := by
    refine List.map_congr_left fun s hs => ?_
    have := List.mem_range.mp hs
    exact if_pos (by omega)
  have e2 : (List.range (high - k).toNat).map (fun s => splC (celAt v.left v.mid v.right v.at_) (celAt u.left u.mid u.right u.at_) k (low + (((k - low).toNat + s : Nat) : Int))) = (List.range (high - k).toNat).map fun s => celAt u.left u.mid u.right u.at_ (k + ((s : Nat) : Int)) := by
    refine List.map_congr_left fun s hs => ?_
    unfold splC
    rw [if_neg (by omega)]
    congr 1
    omega
  rw [e1, e2]
theorem word_ne {p : Int} {n : Nat} (h : 0 < n) : wordC l mi r st p n ≠ [] := fun z => by
  have := congrArg List.length z
  rw [wordC_len, List.length_nil] at this
  omega
theorem move_ext (hl : l ≠ []) (hr : r ≠ []) : rowV (rowV m l mi r st).many (rowV m l mi r st).left (rowV m l mi r st).mid (rowV m l mi r st).right ((rowV m l mi r st).at_ + k) = rowV m l mi r (st + k) := by
  rw [(rowV_size (m := m) (l := l) (mi := mi) (r := r) (st := st)).1]
  obtain ⟨n1, n2⟩ := rowV_ne (m := m) (mi := mi) (st := st) hl hr
  refine rowV_ext n1 n2 hl hr fun p => ?_
  rw [celAt_shift, celAt_shift]
  exact rowV_cell hl hr _
theorem self_ext (hl : l ≠ []) (hr : r ≠ []) : rowV m (rowV m l mi r st).left (rowV m l mi r st).mid (rowV m l mi r st).right (rowV m l mi r st).at_ = rowV m l mi r st := by
  obtain ⟨n1, n2⟩ := rowV_ne (m := m) (mi := mi) (st := st) hl hr
  exact rowV_ext n1 n2 hl hr fun p => rowV_cell hl hr _
theorem paint_ext (hl : l ≠ []) (hr : r ≠ []) {v : RowV} (hv : v = rowV m l mi r st) {lo hi : Int} (a1 : lo ≤ v.at_) (a2 : v.fin ≤ hi) (a3 : lo ≤ k) (a4 : k + w.length ≤ hi) (b1 : low ≤ st) (b2 : st + mi.length ≤ high) (b3 : low ≤ k) (b4 : k + w.length ≤ high) :
    paintV v k w lo hi = rowV m (wordC l mi r st (low - l.length) l.length) ((List.range (high - low).toNat).map fun s => pntC (celAt l mi r st) k w (low + (s : Nat))) (wordC l mi r st high r.length) low := by
  have pl := List.length_pos_iff.mpr hl
  have pr := List.length_pos_iff.mpr hr
  obtain ⟨n1, n2⟩ : v.left ≠ [] ∧ v.right ≠ [] := by rw [hv]; exact rowV_ne hl hr
  have hc : celAt v.left v.mid v.right v.at_ = celAt l mi r st := by rw [hv]; exact funext fun p => rowV_cell hl hr p
  have em : v.many = m := by rw [hv]; exact rowV_size.1
  unfold paintV
  rw [em]
  refine rowV_ext (word_ne (List.length_pos_iff.mpr n1)) (word_ne (List.length_pos_iff.mpr n2)) (word_ne pl) (word_ne pr) fun p => ?_
  rw [paintM_eq a3 a4]
  refine (pnt_cut n1 n2 a1 a2 a3 a4 p).trans ?_
  rw [hc]
  exact (pnt_cut hl hr b1 b2 b3 b4 p).symm
theorem splice_ext (hl : l ≠ []) (hr : r ≠ []) (hl' : l' ≠ []) (hr' : r' ≠ []) {v u : RowV} (hv : v = rowV m l mi r st) (hu : u = rowV m l' mi' r' st') {lo hi : Int} (a1 : lo ≤ v.at_) (a2 : u.fin ≤ hi) (a3 : lo ≤ k) (a4 : k ≤ hi) (b1 : low ≤ st) (b2 : st' + mi'.length ≤ high) (b3 : low ≤ k) (b4 : k ≤ high) :
    spliceV v u k lo hi = rowV m (wordC l mi r st (low - l.length) l.length) ((List.range (high - low).toNat).map fun s => splC (celAt l mi r st) (celAt l' mi' r' st') k (low + (s : Nat))) (wordC l' mi' r' st' high r'.length) low := by
  have pl := List.length_pos_iff.mpr hl
  have pr := List.length_pos_iff.mpr hr'
  obtain ⟨n1, n2⟩ : v.left ≠ [] ∧ v.right ≠ [] := by rw [hv]; exact rowV_ne hl hr
  obtain ⟨n3, n4⟩ : u.left ≠ [] ∧ u.right ≠ [] := by rw [hu]; exact rowV_ne hl' hr'
  have hc : celAt v.left v.mid v.right v.at_ = celAt l mi r st := by rw [hv]; exact funext fun p => rowV_cell hl hr p
  have hc' : celAt u.left u.mid u.right u.at_ = celAt l' mi' r' st' := by rw [hu]; exact funext fun p => rowV_cell hl' hr' p
  have em : v.many = m := by rw [hv]; exact rowV_size.1
  unfold spliceV
  rw [em]
  refine rowV_ext (word_ne (List.length_pos_iff.mpr n1)) (word_ne (List.length_pos_iff.mpr n4)) (word_ne pl) (word_ne pr) fun p => ?_
  rw [spliceM_eq a3 a4]
  refine (spl_cut n1 n4 a1 a2 a3 a4 p).trans ?_
  rw [hc, hc']
  exact (spl_cut hl hr' b1 b2 b3 b4 p).symm
theorem pnt_sign (hl : l ≠ []) (hr : r ≠ []) (sl : Signs m l) (si : Signs m mi) (sr : Signs m r) (sw : Signs m w) (p : Int) : 0 ≤ pntC (celAt l mi r st) k w p ∧ pntC (celAt l mi r st) k w p < m := by
  unfold pntC
  split
  · have : w[(p - k).toNat]? = some (w.getD (p - k).toNat 0) := by
      rw [List.getD_eq_getElem?_getD, List.getElem?_eq_getElem (by omega)]
      rfl
    exact sw _ (List.mem_of_getElem? this)
  · exact cel_sign hl hr sl si sr _
end
end PD
set_option Elab.async false
set_option linter.all false
set_option maxRecDepth 100000
set_option maxHeartbeats 4000000
/-! PD35: len and repr of an own object. -/
namespace PD
open PySem PySem.Spec L2
theorem plain2_intsB {x : D} {ws : List Int} (hx : x.seq = some (ws.map .int)) (hl : ws.length ≤ 1000000) : Plain2 x := ⟨by cases x <;> cases hx <;> rfl, fun l e => by
  rw [hx] at e
  cases e
  refine ⟨by rw [List.length_map]; have : sizeLine = 16777216 := (by decide); omega, fun s hs => ?_⟩
  obtain ⟨i, _, rfl⟩ := List.mem_map.mp hs
  rfl⟩
section
variable {X : Cx} {f : Fm} {W : WX} {a : Expr} {wa : WE} {pos p : Pos} {env : Ev} {μ : Mu} {σ : L2.St} {F H : Hp} {cn : Str} {sp : SpD} {C g : Addr}
structure SpeR (X : Cx) (c : Cfg) (nm : Str) (cn : Str) (sp : SpD) : Prop where
  to : ∃ (C g : Addr) (k : Nat) (fd : FuncData) (ps : List Str), c.mg cn = some (.ref C) ∧ OIsi c.K C ∧ PySem.W.findIn c.K (.ref C) nm = some (some (.ref g)) ∧ PySem.W.isFn c.K (.ref g) = true ∧
    FnOk X.prog X.w X.K X.mg X.base (L2.CX X.prog X.w) k g fd ps (spOf c sp) ∧ Room (k + 2) X.A ∧ Binds X.K fd ps []
def wLenO (cn : Str) (sp : SpD) (wa : WE) : WE := fun env μ Q E => wa env μ (fun r1 μ1 => (∃ ns vs, r1.d = .ins cn ns vs) ∧ sp [r1.d] μ1 (fun r μ2 => ∃ n, r = .fz (.int n) ∧ (0 ≤ n ∧ n < 2 ^ 63) ∧ Q (.fz (.int n)) μ2) E) E
theorem px_lenO (hK : X.K = f.c.K) (ow : SpeR X f.c "__len__" cn sp) (tk : Takes X W) (hm : X.mg "len" = none) (ha : PX X f W a wa) (gl : Gl X "len" := by rfl) (hs : starEach [a] X.env = (false, eval a X.env) :: starEach [] X.env := by rfl) (hpl : (backTo pos (starEach [] X.env)).any (·.1) = false := by rfl) :
    PX X f W (.Call (.Name "len" p) [a] [] pos) (wLenO cn sp wa) := by
  refine ⟨fun pins s σ H Q I h => ?_⟩
  obtain ⟨C, g, k, fd, ps, g1, g2, g4, g5, g6, g7, g8⟩ := ow.to
  have h1 : Lf f W wa σ H fun v0 H1 => ∃ v, [v0] = [v] ∧ ∃ (x : Addr), v = .ref x ∧ (∃ dx fs, H1 x = some (.ins C dx fs)) ∧ spOf f.c sp [v] H1 (fun z H' => ∃ n, z = .int n ∧ (0 ≤ n ∧ n < 2 ^ 63) ∧ Q (.int n) H') (L2.WE W σ) := by
    obtain ⟨env, μ, F, Qp, Ep, rel, hw, k', kx⟩ := h
    refine ⟨env, μ, F, _, Ep, rel, hw, fun r1 μ1 v1 F1 H1 rel1 e1 rr1 q1 => ?_, kx⟩
    obtain ⟨F2, rel2, e2, rz⟩ := settle rel1 rr1
    obtain ⟨⟨ns, vs, en⟩, hsp⟩ := q1
    obtain ⟨x, dx, fs, ev, hx, _⟩ := own_ty hK g1 g2 rel2 rz en
    refine ⟨v1, rfl, x, ev, ⟨dx, fs, hx⟩, ?_⟩
    refine sp_of rel2 (.cons (by rw [en]; exact rz_ins rz en) .nil) hsp (fun r μ3 v F3 H3 rel3 e3 rr3 q3 => ?_) fun x μ3 cls d F3 H3 rel3 e3 xr q3 => kx x μ3 cls d F3 H3 rel3 ((e1.trans e2).trans e3) xr q3
    obtain ⟨n, rfl, hn, q⟩ := q3
    have rb : Rep f.c F3 v (.int n) := rr3
    cases rb
    exact ⟨n, rfl, hn, k' (.fz (.int n)) μ3 (.int n) F3 H3 rel3 ((e1.trans e2).trans e3) (.int _) q⟩
  refine wpAny_Call_Name_kw (ld_blt I gl hm (show bootBuiltins "len" = some (.builtin "len") by decide +kernel) ?_ (by decide) (by decide))
  refine PyProof.Rows.callWith_builtin1 (thn ((pa_cons ha pa_nil hs).run pos pins s σ H (fun vs H1 => ∃ v, vs = [v] ∧ ∃ (x : Addr), v = .ref x ∧ (∃ dx fs, H1 x = some (.ins C dx fs)) ∧ spOf f.c sp [v] H1 (fun z H' => ∃ n, z = .int n ∧ (0 ≤ n ∧ n < 2 ^ 63) ∧ Q (.int n) H') (L2.WE W σ)) I
    h1) fun us s1 hv => ?_) hs hpl
  obtain ⟨vs, H1, I1, r1, v, rfl, x, rfl, ⟨dx, fs, hx⟩, q⟩ := hv
  obtain ⟨u, rfl, ru⟩ := vals1 r1
  obtain rfl : u = Value.ref x := ru
  obtain ⟨mA, J, _⟩ := ins_get I1.hok hx
  obtain ⟨od, J, _⟩ := J.look
  obtain ⟨m, hF⟩ := I1.fr
  refine PySem.W.len_K hF I1.ok.mod.kin J (by rw [hK]; exact g4) (by rw [hK]; exact g5) ?_
  refine wpAny_mono (run_fnA (E := L2.WE W σ) (us := [.ref x]) (vs := [.ref x]) g6 ((Room.in1 g7).mono (Nat.le_succ _)) I1.env0.in1 g8 (passAt tk σ) I1 (.cons rfl .nil) q) (fun r s' hq => ?_) fun _ _ e => e
  obtain ⟨z, H', I', rz, n, rfl, hn, q'⟩ := hq
  obtain ⟨t, rfl⟩ := rz
  exact ⟨hn, .int n, H', I'.tok _, ⟨_, rfl⟩, q'⟩
end
end PD
set_option Elab.async false
set_option linter.all false
set_option maxRecDepth 100000
set_option maxHeartbeats 4000000
/-! PD36: rows of noughts with some cells changed. -/
namespace PD
open PySem PySem.Spec L2
section
variable {m st : Int} {inn : List Int}
theorem wheel0 (i : Int) : wheelAt [0] i = 0 := by
  unfold wheelAt
  show ([0] : List Int).getD (i % 1).toNat 0 = 0
  rw [Int.emod_one]
  rfl
theorem cel0_in {i : Nat} (h : i < inn.length) : celAt [0] inn [0] st (st + (i : Nat)) = inn.getD i 0 := celAt_m h
theorem cel0_out {p : Int} (h : p < st ∨ st + inn.length ≤ p) : celAt [0] inn [0] st p = 0 := by
  rcases h with h | h
  · rw [celAt_l h, wheel0]
  · rw [celAt_right h, wheel0]
theorem word0 {p : Int} (h : p < st ∨ st + inn.length ≤ p) : wordC [0] inn [0] st p 1 = [0] := by
  unfold wordC
  show [celAt [0] inn [0] st (p + ((0 : Nat) : Int))] = [0]
  rw [show p + ((0 : Nat) : Int) = p by omega, cel0_out h]
/-- its ends are no noughts: it is in plain form -/
theorem zero_v (h1 : inn.getD 0 0 ≠ 0) (h2 : inn.getD (inn.length - 1) 0 ≠ 0) : rowV m [0] inn [0] st = ⟨m, [0], inn, [0], st⟩ := by
  have pl : 0 < inn.length := by
    cases inn with
    | nil => exact absurd rfl h1
    | cons a l => exact Nat.succ_pos _
  have hE : IsEnd (celAt [0] inn [0] st) (fun p => wheelAt [0] (p - (st + inn.length))) (st + inn.length) := ⟨fun p hp => celAt_right hp, fun z => by
    have z : celAt [0] inn [0] st (st + inn.length - 1) = wheelAt [0] (st + inn.length - 1 - (st + inn.length)) := z
    rw [wheel0, show st + (inn.length : Int) - 1 = st + ((inn.length - 1 : Nat) : Int) by omega, cel0_in (by omega)] at z
    exact h2 z⟩
  have hB : IsBeg (celAt [0] inn [0] st) (fun p => wheelAt [0] (p - st)) (st + inn.length) st := ⟨by omega, fun p hp => celAt_l hp, .inr fun z => by
    have z : celAt [0] inn [0] st st = wheelAt [0] (st - st) := z
    have e := cel0_in (st := st) pl
    rw [show st + ((0 : Nat) : Int) = st by omega] at e
    rw [wheel0, e] at z
    exact h1 z⟩
  rw [rowV_ends (m := m) (by decide) (by decide) hE hB, root_0]
  have e1 : wordC [0] inn [0] st (st - (([0] : List Int).length : Int)) ([0] : List Int).length = [0] := word0 (.inl (by show st - 1 < st; omega))
  have e2 : wordC [0] inn [0] st (st + inn.length) ([0] : List Int).length = [0] := word0 (.inr (by omega))
  have e3 : wordC [0] inn [0] st st (st + inn.length - st).toNat = inn := by
    unfold wordC
    rw [show (st + (inn.length : Int) - st).toNat = inn.length by omega]
    refine Eq.trans (List.map_congr_left fun s hs => ?_) (getD_all (w := inn))
    exact cel0_in (List.mem_range.mp hs)
  rw [e1, e2, e3]
theorem one_v : rowV m [0] [1] [0] st = ⟨m, [0], [1], [0], st⟩ := zero_v (by decide) (by decide)
end
end PD
set_option Elab.async false
set_option linter.all false
set_option maxRecDepth 100000
set_option maxHeartbeats 2000000
/-! PDK2: enumerate of a tuple. -/
namespace L2
open PySem PySem.Spec PyProof.Rows
theorem meets_enumerate_new1B {v : Value} {o : Obj} {H : Heap → Prop} (B : Begins v o H) :
    Meets (Builtin.«enumerate.__new__» ⟨[.type "enumerate", v], []⟩) (fun _ R s => H s.heap ∧
      R (.ok (.ret (.ref (s.heap.push o).objs.size))) { s with heap := (s.heap.push o).push { cls := .type "enumerate", data := .fields #[.none, .bool false, .ref s.heap.objs.size, rawInt 0, .none, .none] } }) :=
  .of_wp fun prog w A R s h => by
    obtain ⟨hp, g, d, tk, os⟩ := s; obtain ⟨h1, h⟩ := h
    have hsub := sub_enumerate
    have q1 : ∀ {A' : Around} {E : Value → Shared → Prop} {Q : Value → Shared → Prop}, Q (.ref hp.objs.size) ⟨hp.push o, g, d, tk, os⟩ → wpAny (model prog w) A' (pyIter v) Q E ⟨hp, g, d, tk, os⟩ :=
      fun q => B.iter prog w _ _ ⟨hp, g, d, tk, os⟩ _ h1 q
    wp_walk using q1
    refine wpAny_stack_any fun st => wpAny_pure ?_
    split
    · rename_i c _ _ _ _ _
      cases (c == Value.type "enumerate")
      · wp_walk using q1
        exact ⟨_, rfl, h⟩
      · wp_walk using q1
        exact ⟨_, rfl, h⟩
    · wp_walk using q1
      exact ⟨_, rfl, h⟩
section
variable {prog : Program} {w : World} {A : Around} {E : Value → Shared → Prop} {s : Shared}
theorem call_enumerate_B {v : Value} {o : Obj} {H : Heap → Prop} {Q : Value → Shared → Prop} (B : Begins v o H) (h1 : H s.heap)
    (h : ∀ h', IsEnum h' (s.heap.objs.size + 1) s.heap.objs.size 0 .none → h'.get? s.heap.objs.size = some o → h'.objs.size = s.heap.objs.size + 2 →
      (∀ b o, s.heap.get? b = some o → h'.get? b = some o) → Q (.ref (s.heap.objs.size + 1)) { s with heap := h' }) :
    wpAny (model prog w) A (call (.type "enumerate") [v]) Q E s := by
  refine callType_new F.called_enumerate (by decide) (F.typeCall_enumerate_1 _) (F.newCall_enumerate_1 _) (fun obj => F.args_object_init_2 obj _) F.entry_enumerate_new
    (meets_enumerate_new1B B) ⟨h1, ?_⟩
  have hz : (s.heap.push o).objs.size = s.heap.objs.size + 1 := Heap.size_push ..
  show _ ∧ _
  rw [hz]
  have he : IsEnum ((s.heap.push o).push
      { cls := .type "enumerate", data := .fields #[.none, .bool false, .ref s.heap.objs.size, rawInt 0, .none, .none] }) (s.heap.objs.size + 1) s.heap.objs.size 0 .none := by
    have := Heap.get?_push_size (s.heap.push o)
      (o := { cls := .type "enumerate", data := .fields #[.none, .bool false, .ref s.heap.objs.size, rawInt 0, .none, .none] }) rfl
    rw [hz] at this; exact this
  refine ⟨⟨_, he, rfl⟩, h _ he (Heap.get?_push_of_some _ (Heap.get?_push_size _ B.free)) (by rw [Heap.size_push, hz]) fun b o y => Heap.get?_push_of_some _ (Heap.get?_push_of_some _ y)⟩
theorem pyNext_enumT_end {e it l : Addr} {i : Nat} {items : Array Value} {old : Value} {Q : Option Value → Shared → Prop} (hh : A.handled = none)
    (he : IsEnum s.heap e it i old) (hit : s.heap.IsTupleIter it l i) (hl : s.heap.IsTuple l items) (hx : items[i]? = none)
    (hQ : ∀ h', Heap.ExtBut it s.heap h' → Q none { s with heap := h' }) : wpAny (model prog w) A (pyNext (.ref e)) Q E s := by
  have hT : s.TypeIs (.ref e) "enumerate" := ⟨_, he, rfl⟩
  unfold pyNext
  refine wpAny_bind (wpAny_attempt (wpAny_callSpecial?_slot (name := Str.ofString "__next__") hT F.slot_enumerate_next
    (wpAny_call_entry F.slot_enumerate_next hT F.entry_enumerate_next ?_ (F.args_enumerate_next_1 _))))
  show wpAny _ _ (field (.ref e) 2 >>= _) _ _ _
  refine wpAny_bind (wpAny_field he rfl (x := .ref it) rfl ?_)
  refine wpAny_bind (wpAny_nextOf_tuple_end hh hit hl hx fun h' x he' hx' => ?_)
  obtain ⟨o, ho, hc⟩ := hx'
  refine wpAny_bind (wpAny_isInstance (T := "StopIteration") (b := true) ⟨o, ho, hc⟩ isSubtype_stop ?_)
  exact wpAny_pure (hQ _ he')
end
/-- the tuple at a as it stands at each turn, in new pairs with the count -/
def IteT (K : PySem.W.Frag) (a : Addr) : It :=
  ⟨fun i H => ∃ (xs : List V) (x : V), SqT K H a xs ∧ xs[i]? = some x, fun i H v H' => ∃ T x, v = .ref T ∧ H T = none ∧ H' = upd H T (.tup [.int (i : Nat), x]) ∧ ∀ xs, SqT K H a xs → xs[i]? = some x, fun i H => ∃ xs : List V, SqT K H a xs ∧ xs.length ≤ i⟩
theorem turn_enumT {P : Program} {w : World} {K : PySem.W.Frag} {elts : List Expr} {kk : Nat} {tpos : Pos} (a e it : Addr) :
    Turn P w K (.Tuple elts kk tpos) (IteT K a) [e, it] e (fun i h => (∃ old, IsEnum h e it ((i : Nat) : Int) old) ∧ h.IsTupleIter it a i ∧ e ≠ it ∧ a ≠ it ∧ a ≠ e) where
  mem := by simp
  obj := fun i h st b hb => by
    obtain ⟨⟨old, he⟩, ⟨o, ho, hc, hd⟩, _⟩ := st
    have e' : b = e ∨ b = it := by simpa using hb
    rcases e' with z | z
    · rw [z]; exact ⟨_, he, fun v q => nomatch q⟩
    · rw [z]; exact ⟨o, ho, fun v q => by rw [hd] at q; cases q⟩
  keep := fun i h h' st k => let ⟨⟨old, he⟩, hi, hne⟩ := st; ⟨⟨old, k e (by simp) _ he⟩, hi.at fun o q => k it (by simp) o q, hne⟩
  item := by
    intro X hP hw hK hc i pins s σ H E I hf st hg
    subst hP hw hK
    obtain ⟨⟨old, he⟩, hit, hne, ha1, ha2⟩ := st
    obtain ⟨xs, x, hq, hx⟩ := hg
    obtain ⟨its, rv, p, hz⟩ := I.tuple hq
    obtain ⟨u, hu, ru⟩ := rv.get hx
    have hel : e < s.heap.objs.size := Heap.lt_size he
    have hil : it < s.heap.objs.size := by obtain ⟨_, q, _⟩ := hit; exact Heap.lt_size q
    have hlt : i < its.toArray.size := by
      have := (List.getElem?_eq_some_iff.mp hu).1
      simpa using this
    refine wpAny_pyNext_enum_itemC (Draws.tuple (A := X.A.in1) (I.ok.hd hc) it a ha1 its.toArray) he ⟨hit, p⟩ hlt hne (by simp; exact ⟨hne, fun z => ha2 z.symm⟩) fun u' h' tk hP ho hst hT hsz hk => ?_
    obtain ⟨hit', ht'⟩ := hst
    have eu : u' = u := by
      have hP : its.toArray[i]? = some u' := hP
      rw [List.getElem?_toArray, hu] at hP
      exact (Option.some.inj hP).symm
    subst eu
    refine ⟨_, rfl, wpAny_letOwnedTupleGo_enum (s := { s with heap := h', toks := tk + 1 }) ho fun h'' he' sb => ?_⟩
    have hT2 : h''.get? s.heap.objs.size = some { cls := .type "tuple", data := .seq #[.int i tk, u'] } := (sb.2 _ (Nat.ne_of_gt hel)).trans hT
    have new : ObjOk X.prog X.w (upd H s.heap.objs.size (.tup [.int (i : Nat), x])) h'' s.heap.objs.size (.tup [.int (i : Nat), x]) :=
      ⟨by show 2 ≤ sizeLine; decide, [.int i tk, u'], .cons ⟨_, rfl⟩ (.cons ru .nil), ⟨_, hT2, rfl, _, rfl⟩⟩
    have I1 : Inv X pins σ (upd H s.heap.objs.size (.tup [.int (i : Nat), x])) { s with heap := h'', toks := tk + 1 } :=
      I.turnedNew (ch := [e, it]) (fun b ob hb q => (sb.2 b (fun z => hb (by simp [z]))).trans (hk b ob (fun z => hb (by simp [z])) (fun z => hb (by simp [z])) q)) hf (Nat.le_refl _) new
    refine ⟨.ref s.heap.objs.size, _, I1, rfl, ⟨_, x, rfl, I.hok.fresh (Nat.le_refl _), rfl, fun ys hy => by rw [I.tuple_inj hy hq]; exact hx⟩, ⟨⟨u', ?_⟩, hit'.at fun o q => (sb.2 it (Ne.symm hne)).trans q, hne, ha1, ha2⟩, fun b hb => ?_⟩
    · have e1 : ((i + 1 : Nat) : Int) = (i : Int) + 1 := by omega
      rw [e1]; exact he'
    · have hb' : b < s.heap.objs.size := by
        have e' : b = e ∨ b = it := by simpa using hb
        rcases e' with z | z
        · rw [z]; exact hel
        · rw [z]; exact hil
      rw [upd_ne (Nat.ne_of_lt hb')]
      exact (hf b hb).1
  done := by
    intro X hP hw hK hc i pins s σ H E I hf st hg
    subst hP hw hK
    obtain ⟨⟨old, he⟩, hit, hne, ha1, ha2⟩ := st
    obtain ⟨xs, hq, hx⟩ := hg
    obtain ⟨its, rv, p, hz⟩ := I.tuple hq
    obtain ⟨f0, f1, f2, f3, f4, f5⟩ := hf it (by simp)
    have hl := rv.length
    exact pyNext_enumT_end (I.ok.hd hc) he hit p (by simp; omega) fun h' eb => ⟨rfl, I.turned (t' := s.toks) (fun b o hb q => eb b o hb q) f0 f1 f3 f4 f5⟩
  self := fun A i s Q E st h => let ⟨⟨_, he⟩, _⟩ := st; wpAny_pyIter_enum he h
/-- enumerate of a list or a tuple -/
def iEnumA (K : PySem.W.Frag) (ta : TA) : TI := fun σ H R => ta σ H fun vs H1 => ∃ a xs, vs = [.ref a] ∧ ((SqL K H1 a xs ∧ R (Ite K a) H1) ∨ (SqT K H1 a xs ∧ R (IteT K a) H1))
theorem pi_enumA {X : Cx} {e : Expr} {ta : TA} {p pos tpos : Pos} {elts : List Expr} {kk : Nat} (hg : Gl X "enumerate") (hm : X.mg "enumerate" = none) (ha : PA X [e] ta) (hs : starEach [e] X.env = [(false, eval e X.env)] := by rfl) :
    PI X (.Tuple elts kk tpos) (.Call (.Name "enumerate" p) [e] [] pos) (iEnumA X.K ta) := by
  refine ⟨fun pins s σ H R I h => ?_⟩
  refine Call_ (ld_blt I hg hm boot_enumerate (PyProof.Rows.callWith_type1 (thn (ha.run pos pins s σ H _ I h) fun us s1 ⟨vs, H1, I1, r1, q1⟩ => ?_) hs rfl))
  obtain ⟨a, xs, ex, q1⟩ := q1
  subst ex
  cases r1 with
  | cons r rr =>
    cases rr
    cases r
    have fresh2 : ∀ b, b ∈ [s1.heap.objs.size + 1, s1.heap.objs.size] → FpOk X pins H1 b := fun b hb => by
      have e' : b = s1.heap.objs.size + 1 ∨ b = s1.heap.objs.size := by simpa using hb
      have hle : s1.heap.objs.size ≤ b := by
        rcases e' with z | z
        · rw [z]; exact Nat.le_add_right _ _
        · rw [z]; exact Nat.le_refl _
      exact I1.fpOk hle (I1.hok.fresh hle)
    rcases q1 with ⟨hq, q⟩ | ⟨hq, q⟩
    · obtain ⟨its, rv, p', hz⟩ := I1.list hq
      refine call_enumerate_list p'.isList fun h' he hit hsz hk => wpAny_pyIter_enum he ?_
      have I2 : Inv X pins σ H1 { s1 with heap := h' } := I1.kept (t' := s1.toks) hk
      exact ⟨s1.heap.objs.size + 1, [s1.heap.objs.size + 1, s1.heap.objs.size], _, _, H1, rfl, I2, turn_enum a (s1.heap.objs.size + 1) s1.heap.objs.size, ⟨⟨.none, he⟩, hit, Nat.succ_ne_self _⟩, fresh2, q⟩
    · obtain ⟨its, rv, p', hz⟩ := I1.tuple hq
      obtain ⟨o1, ho1, _⟩ := id p'
      have hlt := Heap.lt_size ho1
      refine call_enumerate_B (begins_tuple a its.toArray) p' fun h' he hit hsz hk => wpAny_pyIter_enum he ?_
      have I2 : Inv X pins σ H1 { s1 with heap := h' } := I1.kept (t' := s1.toks) hk
      exact ⟨s1.heap.objs.size + 1, [s1.heap.objs.size + 1, s1.heap.objs.size], _, _, H1, rfl, I2, turn_enumT a (s1.heap.objs.size + 1) s1.heap.objs.size, ⟨⟨.none, he⟩, ⟨_, hit, rfl, rfl⟩, Nat.succ_ne_self _, Nat.ne_of_lt hlt, Nat.ne_of_lt (Nat.lt_succ_of_lt hlt)⟩, fresh2, q⟩
end L2
set_option Elab.async false
set_option linter.all false
set_option maxRecDepth 100000
set_option maxHeartbeats 2000000
/-! PDK3: zip of lists, tuples and texts, mixed. -/
namespace L2
open PySem PySem.Spec PyProof.Rows
/-- what items come from -/
inductive Sk where
  | lst (a : Addr) | tup (a : Addr) | txt (x : Str)
def Sk.val : Sk → V
  | .lst a => .ref a
  | .tup a => .ref a
  | .txt x => .str x
def chV (x : Str) : List V := x.cps.toList.map fun c => V.str ⟨#[c]⟩
def Sk.sq (K : PySem.W.Frag) (H : Hp) : Sk → List V → Prop
  | .lst a, xs => SqL K H a xs
  | .tup a, xs => SqT K H a xs
  | .txt x, xs => xs = chV x
/-- its iterator at it, i items gone by -/
def Sk.iter (it : Addr) (t : Tok) (i : Nat) (h : Heap) : Sk → Prop
  | .lst a => h.IsListIter it a i
  | .tup a => h.IsTupleIter it a i
  | .txt x => h.IsStrIter it (strIterType x) x t i
def Sk.ads : Sk → List Addr
  | .lst a => [a]
  | .tup a => [a]
  | .txt _ => []
theorem Sk.iter_obj {it : Addr} {t : Tok} {i : Nat} {h : Heap} : ∀ {k : Sk}, k.iter it t i h → ∃ o, h.get? it = some o ∧ ∀ v, o.data ≠ .cell v
  | .lst a, ⟨o, e, _, d⟩ => ⟨o, e, fun v z => by rw [d] at z; cases z⟩
  | .tup a, ⟨o, e, _, d⟩ => ⟨o, e, fun v z => by rw [d] at z; cases z⟩
  | .txt x, ⟨o, e, _, d⟩ => ⟨o, e, fun v z => by rw [d] at z; cases z⟩
theorem Sk.iter_at {it : Addr} {t : Tok} {i : Nat} {h h' : Heap} (k : ∀ o, h.get? it = some o → h'.get? it = some o) : ∀ {s : Sk}, s.iter it t i h → s.iter it t i h'
  | .lst a, st => Heap.IsListIter.at st fun o e => k o e
  | .tup a, st => Heap.IsTupleIter.at st fun o e => k o e
  | .txt x, ⟨o, e, c, d⟩ => ⟨o, k o e, c, d⟩
theorem vals_ch (x : Str) {i : Nat} {c : Nat} {u : Tok} (h : x.cps[i]? = some c) : (chV x)[i]? = some (V.str ⟨#[c]⟩) := by
  unfold chV
  rw [List.getElem?_map, Array.getElem?_toList, h]
  rfl
theorem chV_len (x : Str) : (chV x).length = x.cps.size := by
  unfold chV
  rw [List.length_map, Array.length_toList]
section
variable {X : Cx} {pins : List (Addr × Obj)} {σ : St} {H : Hp} {s : Shared}
theorem Sk.inj (I : Inv X pins σ H s) : ∀ {k : Sk} {xs ys : List V}, k.sq X.K H xs → k.sq X.K H ys → xs = ys
  | .lst _, _, _, h1, h2 => I.list_inj h1 h2
  | .tup _, _, _, h1, h2 => I.tuple_inj h1 h2
  | .txt _, _, _, h1, h2 => by
    have h1 : _ = _ := h1
    have h2 : _ = _ := h2
    rw [h1, h2]
theorem Sk.ads_lt (I : Inv X pins σ H s) : ∀ {k : Sk} {xs : List V}, k.sq X.K H xs → ∀ b ∈ k.ads, b < s.heap.objs.size
  | .lst a, _, h, b, hb => by
    rw [List.mem_singleton.mp hb]
    obtain ⟨its, _, p, _⟩ := I.list h
    exact p.lt
  | .tup a, _, h, b, hb => by
    rw [List.mem_singleton.mp hb]
    obtain ⟨its, _, p, _⟩ := I.tuple h
    obtain ⟨o, ho, _⟩ := id p
    exact Heap.lt_size ho
  | .txt _, _, _, b, hb => nomatch hb
/-- it draws -/
theorem Sk.draws {A : Around} (I : Inv X pins σ H s) (hh : A.handled = none) {it : Addr} {t : Tok} : ∀ {k : Sk} {xs : List V}, it ∉ k.ads → k.sq X.K H xs →
    ∃ (n : Nat) (P : Nat → Value → Prop) (St : Nat → Heap → Prop), Draws X.prog X.w A it (it :: k.ads) n P St ∧ n = xs.length ∧ (∀ i, k.iter it t i s.heap → St i s.heap) ∧ (∀ i h', St i h' → k.iter it t i h') ∧ ∀ i v, P i v → ∃ x, xs[i]? = some x ∧ RelV x v
  | .lst a, xs, hne, h => by
    obtain ⟨its, rv, p, _⟩ := I.list h
    refine ⟨_, _, _, Draws.list hh it a (fun e => hne (by rw [e]; exact List.mem_singleton.mpr rfl)) its.toArray, ?_, fun i st => ⟨st, p.isList⟩, fun i h' st => st.1, fun i v hv => ?_⟩
    · rw [List.size_toArray]
      exact rv.length.symm
    · have hv : its.toArray[i]? = some v := hv
      rw [List.getElem?_toArray] at hv
      have hi := (List.getElem?_eq_some_iff.mp hv).1
      have hi2 : i < xs.length := by rw [rv.length]; exact hi
      obtain ⟨u, hu, ru⟩ := rv.get (List.getElem?_eq_getElem hi2)
      rw [hv] at hu
      cases hu
      exact ⟨_, List.getElem?_eq_getElem hi2, ru⟩
  | .tup a, xs, hne, h => by
    obtain ⟨its, rv, p, _⟩ := I.tuple h
    refine ⟨_, _, _, Draws.tuple hh it a (fun e => hne (by rw [e]; exact List.mem_singleton.mpr rfl)) its.toArray, ?_, fun i st => ⟨st, p⟩, fun i h' st => st.1, fun i v hv => ?_⟩
    · rw [List.size_toArray]
      exact rv.length.symm
    · have hv : its.toArray[i]? = some v := hv
      rw [List.getElem?_toArray] at hv
      have hi := (List.getElem?_eq_some_iff.mp hv).1
      have hi2 : i < xs.length := by rw [rv.length]; exact hi
      obtain ⟨u, hu, ru⟩ := rv.get (List.getElem?_eq_getElem hi2)
      rw [hv] at hu
      cases hu
      exact ⟨_, List.getElem?_eq_getElem hi2, ru⟩
  | .txt x, xs, _, h => by
    have h : xs = chV x := h
    subst h
    refine ⟨_, _, _, Draws.text hh it x t, (chV_len x).symm, fun i st => st, fun i h' st => st, fun i v hv => ?_⟩
    obtain ⟨c, u, hc, rfl⟩ := hv
    exact ⟨_, vals_ch x (u := u) hc, u, rfl⟩
end
/-- items in new pairs -/
def ItzS (K : PySem.W.Frag) (k1 k2 : Sk) : It :=
  ⟨fun i H => ∃ xs ys : List V, k1.sq K H xs ∧ k2.sq K H ys ∧ i < xs.length ∧ i < ys.length,
    fun i H v H' => ∃ T x y, v = .ref T ∧ H T = none ∧ H' = upd H T (.tup [x, y]) ∧ (∀ xs, k1.sq K H xs → xs[i]? = some x) ∧ ∀ ys, k2.sq K H ys → ys[i]? = some y,
    fun i H => ∃ xs ys : List V, k1.sq K H xs ∧ k2.sq K H ys ∧ i = min xs.length ys.length⟩
theorem turn_zipS {P : Program} {w : World} {K : PySem.W.Frag} {elts : List Expr} {kk : Nat} {tpos : Pos} {k1 k2 : Sk} {t1 t2 : Tok} {z TI TO i1 i2 : Addr} (S : ZipSep2 z TI TO i1 i2 (i1 :: k1.ads) (i2 :: k2.ads)) (n1 : i1 ∉ k1.ads) (n2 : i2 ∉ k2.ads) :
    Turn P w K (.Tuple elts kk tpos) (ItzS K k1 k2) [z, TI, TO, i1, i2] z (fun i h => IsZip h z TI TO .none ∧ IsTupOf2 h TI (.ref i1) (.ref i2) ∧ (∃ x y, IsTupOf2 h TO x y) ∧ k1.iter i1 t1 i h ∧ k2.iter i2 t2 i h) where
  mem := by simp
  obj := fun i h st c hc => by
    obtain ⟨hz, hTI, ⟨x, y, hTO⟩, h1, h2⟩ := st
    have e' : c = z ∨ c = TI ∨ c = TO ∨ c = i1 ∨ c = i2 := by simpa using hc
    rcases e' with q | q | q | q | q
    · rw [q]; exact ⟨_, hz, fun v q => nomatch q⟩
    · rw [q]; exact ⟨_, hTI, fun v q => nomatch q⟩
    · rw [q]; exact ⟨_, hTO, fun v q => nomatch q⟩
    · rw [q]; exact Sk.iter_obj (k := k1) h1
    · rw [q]; exact Sk.iter_obj (k := k2) h2
  keep := fun i h h' st k => by
    obtain ⟨hz, hTI, ⟨x, y, hTO⟩, h1, h2⟩ := st
    exact ⟨k z (by simp) _ hz, k TI (by simp) _ hTI, ⟨x, y, k TO (by simp) _ hTO⟩, Sk.iter_at (s := k1) (h := h) (fun o q => k i1 (by simp) o q) h1, Sk.iter_at (s := k2) (h := h) (fun o q => k i2 (by simp) o q) h2⟩
  item := by
    intro X hP hw hK hc i pins s σ H E I hf st hg
    subst hP hw hK
    obtain ⟨hz, hTI, ⟨x0, y0, hTO⟩, h1, h2⟩ := st
    obtain ⟨xs, ys, hqx, hqy, hx, hy⟩ := hg
    obtain ⟨m1, P1, St1, D1, e1, f1, g1, p1⟩ := Sk.draws (A := X.A.in1) (t := t1) I (I.ok.hd hc) n1 hqx
    obtain ⟨m2, P2, St2, D2, e2, f2, g2, p2⟩ := Sk.draws (A := X.A.in1) (t := t2) I (I.ok.hd hc) n2 hqy
    have hzl : z < s.heap.objs.size := Heap.lt_size hz
    refine wpAny_pyNext_zipD2_item S D1 D2 hz hTI hTO (f1 _ h1) (f2 _ h2) (by omega) (by omega) fun u u2 h' tk q1 q2 z' TO' s1' s2' hT hsz hk => ?_
    obtain ⟨x, hx1, ru⟩ := p1 _ _ q1
    obtain ⟨y, hy1, ru2⟩ := p2 _ _ q2
    refine ⟨_, rfl, wpAny_letOwnedTupleGo_zip (s := { s with heap := h', toks := tk }) z' fun h'' z'' sb => ?_⟩
    have hT2 : h''.get? s.heap.objs.size = some { cls := .type "tuple", data := .seq #[u, u2] } := (sb.2 _ (Nat.ne_of_gt hzl)).trans hT
    have new : ObjOk X.prog X.w (upd H s.heap.objs.size (.tup [x, y])) h'' s.heap.objs.size (.tup [x, y]) :=
      ⟨by show 2 ≤ sizeLine; decide, [u, u2], .cons ru (.cons ru2 .nil), ⟨_, hT2, rfl, _, rfl⟩⟩
    have I1 : Inv X pins σ (upd H s.heap.objs.size (.tup [x, y])) { s with heap := h'', toks := tk } :=
      I.turnedNew (t' := tk) (ch := [z, TI, TO, i1, i2]) (fun c o hb q => (sb.2 c (fun q' => hb (by simp [q']))).trans (hk c o (fun q' => hb (by simp [q'])) (fun q' => hb (by simp [q'])) (fun q' => hb (by simp [q'])) (fun q' => hb (by simp [q'])) q)) hf (Nat.le_refl _) new
    refine ⟨.ref s.heap.objs.size, _, I1, rfl, ⟨_, x, y, rfl, I.hok.fresh (Nat.le_refl _), rfl, fun l hl => by rw [Sk.inj I hl hqx]; exact hx1, fun l hl => by rw [Sk.inj I hl hqy]; exact hy1⟩, ⟨z'', ?_, ⟨u, u2, ?_⟩, ?_, ?_⟩, fun c hcm => ?_⟩
    · exact (sb.2 _ S.TIz).trans (hk _ _ S.TIz S.TITO S.TIi1 S.TIi2 hTI)
    · exact (sb.2 _ S.TOz).trans TO'
    · exact Sk.iter_at (s := k1) (fun o q => (sb.2 _ (fun e => S.zi1 e.symm)).trans q) (g1 _ _ s1')
    · exact Sk.iter_at (s := k2) (fun o q => (sb.2 _ (fun e => S.zi2 e.symm)).trans q) (g2 _ _ s2')
    · have hlt : c < s.heap.objs.size := by
        have e' : c = z ∨ c = TI ∨ c = TO ∨ c = i1 ∨ c = i2 := by simpa using hcm
        rcases e' with q | q | q | q | q
        · rw [q]; exact hzl
        · rw [q]; exact Heap.lt_size hTI
        · rw [q]; exact Heap.lt_size hTO
        · rw [q]; obtain ⟨_, e1, _⟩ := Sk.iter_obj (k := k1) h1; exact Heap.lt_size e1
        · rw [q]; obtain ⟨_, e2, _⟩ := Sk.iter_obj (k := k2) h2; exact Heap.lt_size e2
      rw [upd_ne (Nat.ne_of_lt hlt)]
      exact (hf c hcm).1
  done := by
    intro X hP hw hK hc i pins s σ H E I hf st hg
    subst hP hw hK
    obtain ⟨hz, hTI, ⟨x0, y0, hTO⟩, h1, h2⟩ := st
    obtain ⟨xs, ys, hqx, hqy, hend⟩ := hg
    obtain ⟨m1, P1, St1, D1, e1, f1, g1, p1⟩ := Sk.draws (A := X.A.in1) (t := t1) I (I.ok.hd hc) n1 hqx
    obtain ⟨m2, P2, St2, D2, e2, f2, g2, p2⟩ := Sk.draws (A := X.A.in1) (t := t2) I (I.ok.hd hc) n2 hqy
    exact wpAny_pyNext_zipD2_end S D1 D2 hz hTI hTO (f1 _ h1) (f2 _ h2) (by omega) (by omega) (by omega) fun h' tk hk => ⟨rfl, I.turnedL (t' := tk) (ch := [z, TI, TO, i1, i2]) (fun c o hb q =>
      hk c o (fun q' => hb (by simp [q'])) (fun q' => hb (by simp [q'])) (fun q' => hb (by simp [q'])) (fun q' => hb (by simp [q'])) q) hf⟩
  self := fun A i s Q E st h => wpAny_pyIter_zip st.1 h
def Sk.begin (v : Value) (o : Obj) (C : Heap → Prop) : Prop := Begins v o C
/-- a value's iterator begins -/
theorem Sk.begins {X : Cx} {pins : List (Addr × Obj)} {σ : St} {H : Hp} {s : Shared} (I : Inv X pins σ H s) : ∀ {k : Sk} {xs : List V} {v : Value}, RelV k.val v → k.sq X.K H xs →
    ∃ (o : Obj) (C : Heap → Prop) (t : Tok), Begins v o C ∧ C s.heap ∧ ∀ (h' : Heap) (it : Addr), h'.get? it = some o → k.iter it t 0 h'
  | .lst a, xs, v, r, h => by
    obtain ⟨its, rv, p, _⟩ := I.list h
    cases r
    exact ⟨_, _, 0, begins_list a its.toArray, p.isList, fun h' it e => ⟨_, e, rfl, rfl⟩⟩
  | .tup a, xs, v, r, h => by
    obtain ⟨its, rv, p, _⟩ := I.tuple h
    cases r
    exact ⟨_, _, 0, begins_tuple a its.toArray, p, fun h' it e => ⟨_, e, rfl, rfl⟩⟩
  | .txt x, xs, v, r, h => by
    obtain ⟨t, rfl⟩ := r
    exact ⟨_, _, t, begins_text x t, trivial, fun h' it e => ⟨_, e, rfl, rfl⟩⟩
def iZipS (K : PySem.W.Frag) (ta : TA) : TI := fun σ H R => ta σ H fun vs H1 => ∃ (k1 k2 : Sk) (xs ys : List V), vs = [k1.val, k2.val] ∧ k1.sq K H1 xs ∧ k2.sq K H1 ys ∧ R (ItzS K k1 k2) H1
theorem pi_zipS {X : Cx} {e e2 : Expr} {ta : TA} {p pos tpos : Pos} {elts : List Expr} {kk : Nat} (hg : Gl X "zip") (hm : X.mg "zip" = none) (ha : PA X [e, e2] ta)
    (hs : starEach [e, e2] X.env = (false, eval e X.env) :: starEach [e2] X.env := by rfl) (hpl : (backTo pos (starEach [e2] X.env)).any (·.1) = false := by rfl) :
    PI X (.Tuple elts kk tpos) (.Call (.Name "zip" p) [e, e2] [] pos) (iZipS X.K ta) := by
  refine ⟨fun pins s σ H R I h => ?_⟩
  refine Call_ (ld_blt I hg hm PyProof.Rows.boot_zip (PyProof.Rows.callWith_type1 (thn (ha.run pos pins s σ H _ I h) fun us s1 ⟨vs, H1, I1, r1, q1⟩ => ?_) hs hpl))
  obtain ⟨k1, k2, xs, ys, ex, hqx, hqy, q⟩ := q1
  subst ex
  cases r1 with
  | cons r rr =>
    cases rr with
    | cons r' rr =>
      cases rr
      obtain ⟨o1, C1, t1, B1, c1, b1⟩ := Sk.begins I1 r hqx
      obtain ⟨o2, C2, t2, B2, c2, b2⟩ := Sk.begins I1 r' hqy
      have l1 := Sk.ads_lt I1 hqx
      have l2 := Sk.ads_lt I1 hqy
      have fresh5 : ∀ c, c ∈ [s1.heap.objs.size + 4, s1.heap.objs.size + 2, s1.heap.objs.size + 3, s1.heap.objs.size, s1.heap.objs.size + 1] → FpOk X pins H1 c := fun c hcm => by
        have e' : c = s1.heap.objs.size + 4 ∨ c = s1.heap.objs.size + 2 ∨ c = s1.heap.objs.size + 3 ∨ c = s1.heap.objs.size ∨ c = s1.heap.objs.size + 1 := by simpa using hcm
        have hle : s1.heap.objs.size ≤ c := by
          rcases e' with z | z | z | z | z
          · rw [z]; exact Nat.le_add_right _ _
          · rw [z]; exact Nat.le_add_right _ _
          · rw [z]; exact Nat.le_add_right _ _
          · rw [z]; exact Nat.le_refl _
          · rw [z]; exact Nat.le_add_right _ _
        exact I1.fpOk hle (I1.hok.fresh hle)
      refine zip_begins2 B1 B2 c1 c2 fun h' hz hTI hTO h1 h2 hsz hk => wpAny_pyIter_zip hz ?_
      have I2 : Inv X pins σ H1 { s1 with heap := h' } := I1.kept (t' := s1.toks) hk
      exact ⟨s1.heap.objs.size + 4, [s1.heap.objs.size + 4, s1.heap.objs.size + 2, s1.heap.objs.size + 3, s1.heap.objs.size, s1.heap.objs.size + 1], _, _, H1, rfl, I2, turn_zipS (t1 := t1) (t2 := t2) (zip_sep2 l1 l2) (fun m => Nat.lt_irrefl _ (l1 _ m)) (fun m => absurd (l2 _ m) (Nat.not_lt.mpr (Nat.le_add_right _ _))), ⟨hz, hTI, ⟨_, _, hTO⟩, b1 _ _ h1, b2 _ _ h2⟩, fresh5, q⟩
end L2
set_option Elab.async false
set_option linter.all false
set_option maxRecDepth 100000
set_option maxHeartbeats 4000000
/-! PD37: zip; what items come from. -/
namespace PD
open PySem PySem.Spec L2
section
variable {X : Cx} {f : Fm} {W : WX} {e a b : Expr} {wa wb : WE} {pos : Pos} {env : Ev} {μ : Mu} {σ : L2.St} {F F1 H : Hp} {p : Pos}
def zipD (l m : List D) : List D := (l.zip m).map fun p => .tup [p.1, p.2]
theorem zipD_len {l m : List D} : (zipD l m).length = min l.length m.length := by
  unfold zipD
  rw [List.length_map, List.length_zip]
theorem zipD_at {l m : List D} {i : Nat} {x y : D} (h1 : l[i]? = some x) (h2 : m[i]? = some y) : (zipD l m)[i]? = some (.tup [x, y]) := by
  unfold zipD
  rw [List.getElem?_map, (List.getElem?_zip_eq_some (z := (x, y))).mpr ⟨h1, h2⟩]
  rfl
/-- a new pair is laid still -/
theorem Rel.pair {T : Addr} {xs : List V} {l : List D} (rel : Rel f env μ σ F H) (hT : H T = none) (r : Reps f.c F xs l) : ∃ F', Rel f env μ σ F' (upd H T (.tup xs)) ∧ Same F F' ∧ Rep f.c F' (.ref T) (.tup l) := by
  have nt : ∀ ps, (HO.tup xs) ≠ .tbl ps := fun ps z => by cases z
  have nf := rel.bnone hT
  have r1 := rel.laid (o := .tup xs) hT nt
  have no : ∀ (i : Nat) (k' : Cont), env[i]? = some (some (.own k')) → σ[i]? ≠ some (some (.ref T)) := fun i k' h z => by
    obtain ⟨a, g1, _, _, _, g5⟩ := rel.sl i _ h
    rw [z] at g1
    cases g1
    obtain ⟨o, ho, _⟩ := g5.there
    rw [hT] at ho
    cases ho
  have r2 := r1.still (a := T) (o := .tup xs) upd_same nf (rel.toFit.bt _ hT) (rel.toFit.mnone hT) nt no
  refine ⟨_, r2, same_upd nf, .tup upd_same (Reps.mono (same_upd nf) _ _ r)⟩
def chD (x : Str) : List D := x.cps.toList.map fun c => .str ⟨#[c]⟩
theorem reps_ch {c : Cfg} (x : Str) : Reps c F (chV x) (chD x) := by
  unfold chV chD
  generalize x.cps.toList = l
  induction l with
  | nil => exact .nil
  | cons a l ih => exact .cons (.str _) ih
/-- the items of a list, a tuple, a text -/
def srcD : D → Option (List D)
  | .lst l => some l
  | .tup l => some l
  | .str s => some (chD s)
  | _ => none
theorem src_of {c : Cfg} {v : V} {d : D} {l : List D} {K : PySem.W.Frag} (hK : K = c.K) (r : Rep c F1 v d) (h : srcD d = some l) : ∃ (k : Sk) (xs : List V), v = k.val ∧ (∀ F2 : Hp, Same F1 F2 → k.sq K F2 xs) ∧ Reps c F1 xs l := by
  subst hK
  cases r <;> cases h
  · exact ⟨.txt _, _, rfl, fun _ _ => rfl, reps_ch _⟩
  · rename_i p xs s r
    exact ⟨.tup p, xs, rfl, fun F2 e => SqT.of (e _ _ s), r⟩
  · rename_i p xs s r
    exact ⟨.lst p, xs, rfl, fun F2 e => SqL.of (e _ _ s), r⟩
theorem serves_zip {k1 k2 : Sk} {xs ys : List V} {l m : List D} {K : PySem.W.Frag} (hs : ∀ F2 : Hp, Same F1 F2 → k1.sq K F2 xs) (hs2 : ∀ F2 : Hp, Same F1 F2 → k2.sq K F2 ys) (r : Reps f.c F1 xs l) (r2 : Reps f.c F1 ys m) : Serves f (ItzS K k1 k2) (zipD l m) F1 := by
  intro f' env μ σ F H ec rel s
  have hq := hs H (s.trans rel.fh)
  have hq2 := hs2 H (s.trans rel.fh)
  refine ⟨fun i hi => ?_, ⟨xs, ys, hq, hq2, by rw [zipD_len, r.len, r2.len]⟩⟩
  rw [zipD_len] at hi
  have i1 : i < l.length := by omega
  have i2 : i < m.length := by omega
  obtain ⟨x, x1, x2⟩ := r.get (i := i) (List.getElem?_eq_getElem i1)
  obtain ⟨y, y1, y2⟩ := r2.get (i := i) (List.getElem?_eq_getElem i2)
  refine ⟨⟨xs, ys, hq, hq2, by rw [r.len]; exact i1, by rw [r2.len]; exact i2⟩, fun v H' ⟨T, x', y', ev, hT, eH, g1, g2⟩ => ?_⟩
  subst ev eH
  have ex := g1 xs hq
  have ey := g2 ys hq2
  rw [x1] at ex
  rw [y1] at ey
  cases ex
  cases ey
  obtain ⟨F', rel', s', rp⟩ := rel.pair hT (.cons (Rep.mono s _ _ (by rw [ec]; exact x2)) (.one (Rep.mono s _ _ (by rw [ec]; exact y2))) : Reps f'.c F [x, y] [l[i], m[i]])
  refine ⟨F', _, zipD_at (List.getElem?_eq_getElem i1) (List.getElem?_eq_getElem i2), rel', s', fun b o h => by rw [upd_ne (ne_of_none h hT)]; exact h, by rw [← ec]; exact rp⟩
def zipW (x y : D) (Q : List D → Prop) : Prop := match srcD x, srcD y with
  | some l, some m => Q (zipD l m)
  | _, _ => False
def wZip (wa wb : WE) : WI := fun env μ Q E => wa env μ (fun r1 μ1 => r1.still fun d1 => wb env μ1 (fun r2 μ2 => r2.still fun d2 => zipW d1 d2 fun l => Q l μ2) E) E
theorem px_zip {elts : List Expr} {kk : Nat} {tpos : Pos} (hK : X.K = f.c.K) (hm : X.mg "zip" = none) (ha : PX X f W a wa) (hb : PX X f W b wb) (gl : Gl X "zip" := by rfl)
    (hs : starEach [a, b] X.env = (false, eval a X.env) :: starEach [b] X.env := by rfl) (hs2 : starEach [b] X.env = (false, eval b X.env) :: starEach [] X.env := by rfl) (hpl : (backTo pos (starEach [b] X.env)).any (·.1) = false := by rfl) :
    PXI X f W (.Tuple elts kk tpos) (.Call (.Name "zip" p) [a, b] [] pos) (wZip wa wb) :=
  pi_imp (pi_zipS gl hm (pa_cons ha (pa_cons hb pa_nil hs2) hs) hs hpl) fun σ H R h => by
    obtain ⟨env, μ, F, Qp, Ep, rel, hw, k, kx⟩ := h
    refine ⟨env, μ, F, _, Ep, rel, hw, fun r1 μ1 v1 F1 H1 rel1 e1 rr1 q1 => ?_, kx⟩
    obtain ⟨F1', rel1', e1', rz1⟩ := settle rel1 rr1
    obtain ⟨s1, q1'⟩ := still_ok rz1 q1
    have eA := e1.trans e1'
    refine ⟨env, μ1, F1', _, Ep, rel1', q1', fun r2 μ2 v2 F2 H2 rel2 e2 rr2 q2 => ?_, fun x μ2 cls d F2 H2 rel2 e2 xr q2 => kx x μ2 cls d F2 H2 rel2 (eA.trans e2) xr q2⟩
    obtain ⟨F2', rel2', e2', rz2⟩ := settle rel2 rr2
    obtain ⟨s2, q2'⟩ := still_ok rz2 q2
    have eB := (eA.trans e2).trans e2'
    have s1' := Rep.mono (e2.trans e2') _ _ s1
    generalize r1.d = d1 at s1' q2'
    generalize r2.d = d2 at s2 q2'
    unfold zipW at q2'
    cases h1 : srcD d1 with
    | none => rw [h1] at q2'; exact q2'.elim
    | some l =>
      cases h2 : srcD d2 with
      | none => rw [h1, h2] at q2'; exact q2'.elim
      | some m =>
        rw [h1, h2] at q2'
        obtain ⟨k1, xs, ev1, g1, g2⟩ := src_of hK s1' h1
        obtain ⟨k2, ys, ev2, g3, g4⟩ := src_of hK s2 h2
        subst ev1 ev2
        exact ⟨k1, k2, xs, ys, rfl, g1 _ rel2'.fh, g3 _ rel2'.fh, k _ μ2 F2' H2 _ rel2' eB (serves_zip g1 g3 g2 g4) q2'⟩
end
end PD
set_option Elab.async false
set_option linter.all false
set_option maxRecDepth 100000
set_option maxHeartbeats 4000000
/-! PD38: list(range(..)), tuple(range(..)), x.append(y.pop(e)), sum, enumerate of a list. -/
namespace PD
open PySem PySem.Spec L2
section
variable {X : Cx} {f : Fm} {W : WX} {e a b : Expr} {wa wb : WE} {pos pr : Pos} {env : Ev} {μ : Mu} {σ : L2.St} {F F1 H : Hp} {p : Pos}
def rgD (a b : Int) : List D := (List.range (b - a).toNat).map fun i => .int (a + (i : Nat))
theorem rgD_len {a b : Int} : (rgD a b).length = (b - a).toNat := by
  unfold rgD
  rw [List.length_map, List.length_range]
theorem rgD_at {a b : Int} {i : Nat} (h : i < (b - a).toNat) : (rgD a b)[i]? = some (.int (a + (i : Nat))) := by
  unfold rgD
  rw [List.getElem?_map, List.getElem?_range h]
  rfl
theorem reps_rg {c : Cfg} (a b : Int) : Reps c F (rgV a b) (rgD a b) := by
  unfold rgV rgD
  generalize (b - a).toNat = n
  have e : ∀ l : List Nat, Reps c F (l.map fun i => V.int (a + (i : Nat))) (l.map fun i => D.int (a + (i : Nat))) := by
    intro l
    induction l with
    | nil => exact .nil
    | cons x l ih => exact .cons (.int _) ih
  exact e _
def wListRg1 (wa : WE) : WE := fun env μ Q E => wa env μ (fun r μ1 => match r.d with
  | .int n => RgOk 0 n ∧ Q (.fresh (.lst (rgD 0 n))) μ1
  | _ => False) E
def wTupRg1 (wa : WE) : WE := fun env μ Q E => wa env μ (fun r μ1 => match r.d with
  | .int n => RgOk 0 n ∧ Q (.fz (.tup (rgD 0 n))) μ1
  | _ => False) E
def wListRg2 (wa wb : WE) : WE := fun env μ Q E => wa env μ (fun r μ1 => wb env μ1 (fun r2 μ2 => match r.d, r2.d with
  | .int m, .int n => RgOk m n ∧ Q (.fresh (.lst (rgD m n))) μ2
  | _, _ => False) E) E
def wTupRg2 (wa wb : WE) : WE := fun env μ Q E => wa env μ (fun r μ1 => wb env μ1 (fun r2 μ2 => match r.d, r2.d with
  | .int m, .int n => RgOk m n ∧ Q (.fz (.tup (rgD m n))) μ2
  | _, _ => False) E) E
theorem px_listRg1 (hc : X.calm = true) (hm : X.mg "list" = none) (hmr : X.mg "range" = none) (ha : PX X f W a wa) (gl : Gl X "list" := by rfl) (gr : Gl X "range" := by rfl) (na : starEach [a] X.env = (false, eval a X.env) :: starEach [] X.env := by rfl)
    (nb : starEach [.Call (.Name "range" p) [a] [] pr] X.env = (false, eval (.Call (.Name "range" p) [a] [] pr) X.env) :: starEach [] X.env := by rfl) {p2 : Pos} : PX X f W (.Call (.Name "list" p2) [.Call (.Name "range" p) [a] [] pr] [] pos) (wListRg1 wa) :=
  pe_imp (pe_listRg hc gl hm (prg_1 gr hmr ha na) nb) fun σ H Q h => by
    obtain ⟨env, μ, F, Qp, Ep, rel, hw, k, kx⟩ := h
    refine ⟨env, μ, F, _, Ep, rel, hw, fun r1 μ1 v1 F1 H1 rel1 e1 rr1 q1 => ?_, kx⟩
    obtain ⟨F1', rel1', e1', rz1⟩ := settle rel1 rr1
    cases d1 : r1.d <;> rw [d1] at q1 <;> first | exact q1.elim | skip
    rename_i n
    exact ⟨n, rz1.int d1, q1.1, yield_lst rel1' (reps_rg 0 n) fun v F' H' r' s' rr => k _ μ1 v F' H' r' ((e1.trans e1').trans s') rr q1.2⟩
theorem px_tupRg1 (hc : X.calm = true) (hm : X.mg "tuple" = none) (hmr : X.mg "range" = none) (ha : PX X f W a wa) (gl : Gl X "tuple" := by rfl) (gr : Gl X "range" := by rfl) (na : starEach [a] X.env = (false, eval a X.env) :: starEach [] X.env := by rfl)
    (nb : starEach [.Call (.Name "range" p) [a] [] pr] X.env = (false, eval (.Call (.Name "range" p) [a] [] pr) X.env) :: starEach [] X.env := by rfl) {p2 : Pos} : PX X f W (.Call (.Name "tuple" p2) [.Call (.Name "range" p) [a] [] pr] [] pos) (wTupRg1 wa) :=
  pe_imp (pe_tupRg hc gl hm (prg_1 gr hmr ha na) nb) fun σ H Q h => by
    obtain ⟨env, μ, F, Qp, Ep, rel, hw, k, kx⟩ := h
    refine ⟨env, μ, F, _, Ep, rel, hw, fun r1 μ1 v1 F1 H1 rel1 e1 rr1 q1 => ?_, kx⟩
    obtain ⟨F1', rel1', e1', rz1⟩ := settle rel1 rr1
    cases d1 : r1.d <;> rw [d1] at q1 <;> first | exact q1.elim | skip
    rename_i n
    exact ⟨n, rz1.int d1, q1.1, yield_tup rel1' (reps_rg 0 n) fun v F' H' r' s' rr => k _ μ1 v F' H' r' ((e1.trans e1').trans s') rr q1.2⟩
theorem px_listRg2 (hc : X.calm = true) (hm : X.mg "list" = none) (hmr : X.mg "range" = none) (ha : PX X f W a wa) (hb : PX X f W b wb) (gl : Gl X "list" := by rfl) (gr : Gl X "range" := by rfl) (na : starEach [a, b] X.env = (false, eval a X.env) :: starEach [b] X.env := by rfl)
    (na2 : starEach [b] X.env = (false, eval b X.env) :: starEach [] X.env := by rfl) (hp : (backTo pr (starEach [b] X.env)).any (·.1) = false := by rfl)
    (nb : starEach [.Call (.Name "range" p) [a, b] [] pr] X.env = (false, eval (.Call (.Name "range" p) [a, b] [] pr) X.env) :: starEach [] X.env := by rfl) {p2 : Pos} : PX X f W (.Call (.Name "list" p2) [.Call (.Name "range" p) [a, b] [] pr] [] pos) (wListRg2 wa wb) :=
  pe_imp (pe_listRg hc gl hm (prg_2 gr hmr ha hb na na2 hp) nb) fun σ H Q h => by
    obtain ⟨env, μ, F, Qp, Ep, rel, hw, k, kx⟩ := h
    refine ⟨env, μ, F, _, Ep, rel, hw, fun r1 μ1 v1 F1 H1 rel1 e1 rr1 q1 => ?_, kx⟩
    obtain ⟨F1', rel1', e1', rz1⟩ := settle rel1 rr1
    have eA := e1.trans e1'
    refine ⟨env, μ1, F1', _, Ep, rel1', q1, fun r2 μ2 v2 F2 H2 rel2 e2 rr2 q2 => ?_, fun x μ2 cls d F2 H2 rel2 e2 xr q2 => kx x μ2 cls d F2 H2 rel2 (eA.trans e2) xr q2⟩
    obtain ⟨F2', rel2', e2', rz2⟩ := settle rel2 rr2
    cases d1 : r1.d <;> cases d2 : r2.d <;> rw [d1, d2] at q2 <;> first | exact q2.elim | skip
    rename_i i j
    exact ⟨i, j, rz1.int d1, rz2.int d2, q2.1, yield_lst rel2' (reps_rg i j) fun v F' H' r' s' rr => k _ μ2 v F' H' r' (((eA.trans e2).trans e2').trans s') rr q2.2⟩
theorem px_tupRg2 (hc : X.calm = true) (hm : X.mg "tuple" = none) (hmr : X.mg "range" = none) (ha : PX X f W a wa) (hb : PX X f W b wb) (gl : Gl X "tuple" := by rfl) (gr : Gl X "range" := by rfl) (na : starEach [a, b] X.env = (false, eval a X.env) :: starEach [b] X.env := by rfl)
    (na2 : starEach [b] X.env = (false, eval b X.env) :: starEach [] X.env := by rfl) (hp : (backTo pr (starEach [b] X.env)).any (·.1) = false := by rfl)
    (nb : starEach [.Call (.Name "range" p) [a, b] [] pr] X.env = (false, eval (.Call (.Name "range" p) [a, b] [] pr) X.env) :: starEach [] X.env := by rfl) {p2 : Pos} : PX X f W (.Call (.Name "tuple" p2) [.Call (.Name "range" p) [a, b] [] pr] [] pos) (wTupRg2 wa wb) :=
  pe_imp (pe_tupRg hc gl hm (prg_2 gr hmr ha hb na na2 hp) nb) fun σ H Q h => by
    obtain ⟨env, μ, F, Qp, Ep, rel, hw, k, kx⟩ := h
    refine ⟨env, μ, F, _, Ep, rel, hw, fun r1 μ1 v1 F1 H1 rel1 e1 rr1 q1 => ?_, kx⟩
    obtain ⟨F1', rel1', e1', rz1⟩ := settle rel1 rr1
    have eA := e1.trans e1'
    refine ⟨env, μ1, F1', _, Ep, rel1', q1, fun r2 μ2 v2 F2 H2 rel2 e2 rr2 q2 => ?_, fun x μ2 cls d F2 H2 rel2 e2 xr q2 => kx x μ2 cls d F2 H2 rel2 (eA.trans e2) xr q2⟩
    obtain ⟨F2', rel2', e2', rz2⟩ := settle rel2 rr2
    cases d1 : r1.d <;> cases d2 : r2.d <;> rw [d1, d2] at q2 <;> first | exact q2.elim | skip
    rename_i i j
    exact ⟨i, j, rz1.int d1, rz2.int d2, q2.1, yield_tup rel2' (reps_rg i j) fun v F' H' r' s' rr => k _ μ2 v F' H' r' (((eA.trans e2).trans e2').trans s') rr q2.2⟩
/-! ### x.append(y.pop(e)) -/
theorem Reps.erase {c : Cfg} : ∀ (n : Nat) {ds : List D} {vs : List V}, Reps c F vs ds → Reps c F (vs.eraseIdx n) (ds.eraseIdx n)
  | _, _, _, .nil => .nil
  | 0, _, _, .cons _ t => t
  | n + 1, _, _, .cons a t => .cons a (Reps.erase n t)
def appPopK (i j : Nat) (n : En) (env : Ev) (μ1 : Mu) (r : R) : Prop := ownL i env fun l => ownL j env fun m => match r.d with
  | .int k => match ixN m.length k with
    | some q => match m[q]? with
      | some d => l.length < sizeLine ∧ m.length ≤ sizeLine ∧ n.nx ((env.set j (some (.own (.lst (m.eraseIdx q))))).set i (some (.own (.lst (l ++ [d]))))) μ1
      | none => False
    | none => False
  | _ => False
theorem ownL_in {i : Nat} {l : List D} {k : List D → Prop} (h : env[i]? = some (some (.own (.lst l)))) (q : k l) : ownL i env k := by
  unfold ownL
  rw [h]
  exact q
theorem appPop_in {i j : Nat} {n : En} {l m : List D} {k : Int} {q : Nat} {d : D} (h1 : env[i]? = some (some (.own (.lst l)))) (h2 : env[j]? = some (some (.own (.lst m)))) (e1 : ixN m.length k = some q) (e2 : m[q]? = some d)
    (h : l.length < sizeLine ∧ m.length ≤ sizeLine ∧ n.nx ((env.set j (some (.own (.lst (m.eraseIdx q))))).set i (some (.own (.lst (l ++ [d]))))) μ) : appPopK i j n env μ (.fz (.int k)) := by
  refine ownL_in h1 (ownL_in h2 ?_)
  show match ixN m.length k with
    | some q => match m[q]? with
      | some d => l.length < sizeLine ∧ m.length ≤ sizeLine ∧ n.nx ((env.set j (some (.own (.lst (m.eraseIdx q))))).set i (some (.own (.lst (l ++ [d]))))) μ
      | none => False
    | none => False
  rw [e1]
  show match m[q]? with
      | some d => l.length < sizeLine ∧ m.length ≤ sizeLine ∧ n.nx ((env.set j (some (.own (.lst (m.eraseIdx q))))).set i (some (.own (.lst (l ++ [d]))))) μ
      | none => False
  rw [e2]
  exact h
def wAppPop (i j : Nat) (we : WE) : WS := fun n env μ => ownL i env fun _ => ownL j env fun _ => i ≠ j ∧ we env μ (fun r μ1 => appPopK i j n env μ1 r) n.ex
theorem px_appPop {i j : Nat} {x y : Str} {apos cpos bpos dpos pv pw : Pos} (hN : X.N[i]? = some x) (hv : Vis X.env.scope x) (hN2 : X.N[j]? = some y) (hv2 : Vis X.env.scope y) (he : PX X f W e wa)
    (hd : (x == ("__debug__" : Str)) = false := by decide) (hcd : (x == ("__classdict__" : Str)) = false := by decide) (hd2 : (y == ("__debug__" : Str)) = false := by decide) (hcd2 : (y == ("__classdict__" : Str)) = false := by decide)
    (hbase2 : attributeBase (.Name y pw) "pop" X.env (eval (.Name y pw) X.env) = eval (.Name y pw) X.env := by rfl) (hline2 : (bpos.endLine == dpos.line) = true := by rfl)
    (hfew2 : ((backTo dpos (starEach [e] X.env)).all (fun x => !x.1) && (backToKw dpos (keywordEach [] X.env)).all (fun x => x.1.isSome)
      && decide ([e].length + ([] : List Keyword).length + (if ([] : List Keyword).isEmpty then 0 else 1) < 30)) = true := by rfl)
    (hst2 : starEach [e] X.env = (false, eval e X.env) :: starEach [] X.env := by rfl) (hpl2 : (backTo dpos (starEach [] X.env)).any (·.1) = false := by rfl)
    (hbase : attributeBase (.Name x pv) "append" X.env (eval (.Name x pv) X.env) = eval (.Name x pv) X.env := by rfl) (hline : (apos.endLine == cpos.line) = true := by rfl)
    (hs : swapsWith (.Call (.Attribute (.Name x pv) "append" apos) [.Call (.Attribute (.Name y pw) "pop" bpos) [e] [] dpos] [] cpos) none pos.line X.env = pure false := by rfl)
    (hfew : ((backTo cpos (starEach [.Call (.Attribute (.Name y pw) "pop" bpos) [e] [] dpos] X.env)).all (fun x => !x.1) && (backToKw cpos (keywordEach [] X.env)).all (fun x => x.1.isSome)
      && decide ([(Expr.Call (.Attribute (.Name y pw) "pop" bpos) [e] [] dpos)].length + ([] : List Keyword).length + (if ([] : List Keyword).isEmpty then 0 else 1) < 30)) = true := by rfl)
    (hst : starEach [.Call (.Attribute (.Name y pw) "pop" bpos) [e] [] dpos] X.env = (false, eval (.Call (.Attribute (.Name y pw) "pop" bpos) [e] [] dpos) X.env) :: starEach [] X.env := by rfl) (hpl : (backTo cpos (starEach [] X.env)).any (·.1) = false := by rfl) :
    PXS X f W (.Expr (.Call (.Attribute (.Name x pv) "append" apos) [.Call (.Attribute (.Name y pw) "pop" bpos) [e] [] dpos] [] cpos) pos) (wAppPop i j wa) :=
  ps_imp (ps_expr (pe_bm PySem.F.plainAttrs_list PySem.F.slot_list_append PySem.F.type_list_append mt_append (pe_var (i := i) hN hv hd hcd)
    (pa_cons (pe_bm PySem.F.plainAttrs_list PySem.F.slot_list_pop PySem.F.type_list_pop mt_popAt (pe_var (i := j) hN2 hv2 hd2 hcd2) (pa_cons he pa_nil hst2) hbase2 hfew2 hline2 hst2 hpl2) pa_nil hst) hbase hfew hline hst hpl) hs) fun Dn σ H h => by
    obtain ⟨env, μ, F, n, rel, hw, ok⟩ := h
    obtain ⟨l, hl, hw⟩ := ownL_at hw
    obtain ⟨m, hm, hij, hw⟩ := ownL_at hw
    obtain ⟨ad, xs, g1, g2, g3⟩ := own_get rel hl
    obtain ⟨bd, ys, k1, k2, k3⟩ := own_get rel hm
    refine ⟨.ref ad, g1, .inl ⟨rfl, xs, SqL.of g2⟩, .ref bd, k1, .inl ⟨rfl, ys, SqL.of k2⟩, env, μ, F, _, _, rel, hw, fun r1 μ1 v1 F1 H1 rel1 e1 rr1 q1 => ?_, fun x μ2 cls d F2 H2 rel2 e2 xr q2 => ok.ex x env μ2 σ cls d F2 H2 rel2 e2 xr q2⟩
    obtain ⟨F2, rel2, e2, rz1⟩ := settle rel1 rr1
    unfold appPopK at q1
    obtain ⟨l', hl', q1⟩ := ownL_at q1
    obtain ⟨m', hm', q1⟩ := ownL_at q1
    rw [hl] at hl'
    cases hl'
    rw [hm] at hm'
    cases hm'
    cases ek : r1.d <;> simp only [ek] at q1 <;> first | exact q1.elim | skip
    rename_i k
    cases ej : ixN m.length k with
    | none => simp only [ej] at q1
    | some q =>
      simp only [ej] at q1
      cases ed : m[q]? with
      | none => simp only [ed] at q1
      | some d =>
        simp only [ed] at q1
        obtain ⟨z1, z2, q3⟩ := q1
        obtain ⟨ad', xs', g1', g2', g3'⟩ := own_get rel2 hl
        obtain ⟨bd', ys', k1', k2', k3'⟩ := own_get rel2 hm
        rw [g1] at g1'
        cases g1'
        rw [k1] at k1'
        cases k1'
        obtain ⟨s1, s2, s3, s4⟩ := ixN_seq ej
        obtain ⟨v, hv, rv⟩ := k3'.get ed
        have zl : (m.length : Int) ≤ 16777216 := by have : sizeLine = 16777216 := (by decide); omega
        refine ⟨bd, ys', k, q, v, rfl, by rw [rz1.int ek], k2', by omega, by omega, by rw [k3'.len]; exact s1, hv, ?_⟩
        have r3 := rel2.writeOwn (k' := .lst (m.eraseIdx q)) hm k1 ⟨_, upd_same (o := .lst (ys'.eraseIdx q)), k3'.erase q⟩ (fun ps z => by cases z)
        have hl3 : (env.set j (some (.own (.lst (m.eraseIdx q)))))[i]? = some (some (.own (.lst l))) := by rw [set_at hij]; exact hl
        obtain ⟨ad2, xs2, g4, g5, g6⟩ := own_get r3 hl3
        rw [g1] at g4
        cases g4
        refine ⟨ad, xs2, v, rfl, rfl, g5, by rw [g6.len]; exact z1, ?_⟩
        exact ok.nx _ μ1 σ F2 _ (r3.writeOwn (k' := .lst (l ++ [d])) hl3 g1 ⟨_, upd_same, g6.app (.one rv)⟩ (fun ps z => by cases z)) (e1.trans e2) q3
/-! ### sum -/
def intsOf : List D → Option (List Int)
  | [] => some []
  | .int b :: l => (intsOf l).map (b :: ·)
  | _ :: _ => none
theorem intsOf_ints : ∀ ks : List Int, intsOf (ks.map .int) = some ks
  | [] => rfl
  | k :: ks => by
    show (intsOf (ks.map .int)).map (k :: ·) = _
    rw [intsOf_ints ks]
    rfl
theorem intsOf_some : ∀ {l : List D} {ks : List Int}, intsOf l = some ks → l = ks.map .int
  | [], ks, h => by cases h; rfl
  | .int b :: l, ks, h => by
    have h : (intsOf l).map (b :: ·) = some ks := h
    cases e : intsOf l with
    | none => rw [e] at h; cases h
    | some js =>
      rw [e] at h
      cases h
      rw [intsOf_some e]
      rfl
  | .non :: l, _, h => by cases h
  | .bl _ :: l, _, h => by cases h
  | .str _ :: l, _, h => by cases h
  | .tup _ :: l, _, h => by cases h
  | .lst _ :: l, _, h => by cases h
  | .dic _ _ :: l, _, h => by cases h
  | .dct _ _ :: l, _, h => by cases h
  | .ins _ _ _ :: l, _, h => by cases h
  | .hnd _ :: l, _, h => by cases h
  | .scr _ :: l, _, h => by cases h
  | .exc _ _ _ _ _ :: l, _, h => by cases h
def dSum (x : D) (Q : R → Prop) : Prop := match x with
  | .lst l => match intsOf l with
    | some ks => Q (.fz (.int ks.sum))
    | none => False
  | _ => False
theorem callD_sum {K : PySem.W.Frag} (hK : K = f.c.K) : CallD f (rSum K) dSum := by
  intro env μ σ F H r1 v1 Q Qp rel rz h k
  cases e1 : r1.d <;> rw [e1] at h <;> first | exact h.elim | skip
  rename_i l
  have h : match intsOf l with | some ks => Qp (.fz (.int ks.sum)) | none => False := h
  cases e2 : intsOf l with
  | none => rw [e2] at h; exact h.elim
  | some ks =>
    rw [e2] at h
    obtain ⟨ad, xs, rfl, g1, g2⟩ := rz.lst rel e1
    rw [intsOf_some e2] at g2
    have := reps_ints g2
    subst this
    exact ⟨ad, ks, rfl, SqL.of g1, k (.fz (.int ks.sum)) _ F H rel (Same.refl _) (rr_fz (.int _)) h⟩
theorem px_sum {x : Pos} (hK : X.K = f.c.K) (hc : X.calm = true) (hm : X.mg "sum" = none) (ha : PX X f W a wa) (gl : Gl X "sum" := by rfl) (hs : starEach [a] X.env = (false, eval a X.env) :: starEach [] X.env := by rfl) (hpl : (backTo pos (starEach [] X.env)).any (·.1) = false := by rfl) :
    PX X f W (.Call (.Name "sum" x) [a] [] pos) (wUn dSum wa) := px_callB (cr_sum hc) (callD_sum hK) gl hm PyProof.Rows.boot_sum ha (by decide) (by decide) hs hpl
/-! ### enumerate of a list -/
def enumD (l : List D) : List D := (List.range l.length).zipWith (fun i d => .tup [.int (i : Nat), d]) l
theorem enumD_len {l : List D} : (enumD l).length = l.length := by
  unfold enumD
  rw [List.length_zipWith, List.length_range, Nat.min_self]
theorem enumD_at {l : List D} {i : Nat} {d : D} (h : l[i]? = some d) : (enumD l)[i]? = some (.tup [.int (i : Nat), d]) := by
  unfold enumD
  have hi : i < l.length := (List.getElem?_eq_some_iff.mp h).1
  rw [List.getElem?_zipWith, List.getElem?_range hi, h]
theorem serves_enum {ad : Addr} {xs : List V} {l : List D} {K : PySem.W.Frag} (hK : K = f.c.K) (hs : F1 ad = some (.lst xs)) (r : Reps f.c F1 xs l) : Serves f (Ite K ad) (enumD l) F1 := by
  subst hK
  intro f' env μ σ F H ec rel s
  have hq : SqL f.c.K H ad xs := SqL.of (rel.fh _ _ (s _ _ hs))
  refine ⟨fun i hi => ?_, ⟨xs, hq, by rw [enumD_len, r.len]; exact Nat.le_refl _⟩⟩
  rw [enumD_len] at hi
  obtain ⟨x, x1, x2⟩ := r.get (i := i) (List.getElem?_eq_getElem hi)
  refine ⟨⟨xs, x, hq, x1⟩, fun v H' ⟨T, x', ev, hT, eH, g1⟩ => ?_⟩
  subst ev eH
  have ex := g1 xs hq
  rw [x1] at ex
  cases ex
  obtain ⟨F', rel', s', rp⟩ := rel.pair hT (.cons (.int _) (.one (Rep.mono s _ _ (by rw [ec]; exact x2))) : Reps f'.c F [.int (i : Nat), x] [.int (i : Nat), l[i]])
  exact ⟨F', _, enumD_at (List.getElem?_eq_getElem hi), rel', s', fun b o h => by rw [upd_ne (ne_of_none h hT)]; exact h, by rw [← ec]; exact rp⟩
theorem serves_enumT {ad : Addr} {xs : List V} {l : List D} {K : PySem.W.Frag} (hK : K = f.c.K) (hs : SqT f.c.K F1 ad xs) (r : Reps f.c F1 xs l) : Serves f (IteT K ad) (enumD l) F1 := by
  subst hK
  intro f' env μ σ F H ec rel s
  have hq : SqT f.c.K H ad xs := sqt_same rel.fh (sqt_same s hs)
  refine ⟨fun i hi => ?_, ⟨xs, hq, by rw [enumD_len, r.len]; exact Nat.le_refl _⟩⟩
  rw [enumD_len] at hi
  obtain ⟨x, x1, x2⟩ := r.get (i := i) (List.getElem?_eq_getElem hi)
  refine ⟨⟨xs, x, hq, x1⟩, fun v H' ⟨T, x', ev, hT, eH, g1⟩ => ?_⟩
  subst ev eH
  have ex := g1 xs hq
  rw [x1] at ex
  cases ex
  obtain ⟨F', rel', s', rp⟩ := rel.pair hT (.cons (.int _) (.one (Rep.mono s _ _ (by rw [ec]; exact x2))) : Reps f'.c F [.int (i : Nat), x] [.int (i : Nat), l[i]])
  exact ⟨F', _, enumD_at (List.getElem?_eq_getElem hi), rel', s', fun b o h => by rw [upd_ne (ne_of_none h hT)]; exact h, by rw [← ec]; exact rp⟩
def wEnum (wa : WE) : WI := fun env μ Q E => wa env μ (fun r1 μ1 => r1.still fun d1 => match d1 with
  | .lst l => Q (enumD l) μ1
  | .tup l => Q (enumD l) μ1
  | _ => False) E
theorem px_enum {elts : List Expr} {kk : Nat} {tpos : Pos} (hK : X.K = f.c.K) (hm : X.mg "enumerate" = none) (ha : PX X f W a wa) (gl : Gl X "enumerate" := by rfl)
    (hs : starEach [a] X.env = [(false, eval a X.env)] := by rfl) : PXI X f W (.Tuple elts kk tpos) (.Call (.Name "enumerate" p) [a] [] pos) (wEnum wa) :=
  pi_imp (pi_enumA gl hm (pa_cons ha pa_nil hs) hs) fun σ H R h => by
    obtain ⟨env, μ, F, Qp, Ep, rel, hw, k, kx⟩ := h
    refine ⟨env, μ, F, _, Ep, rel, hw, fun r1 μ1 v1 F1 H1 rel1 e1 rr1 q1 => ?_, kx⟩
    obtain ⟨F1', rel1', e1', rz1⟩ := settle rel1 rr1
    obtain ⟨s1, q1'⟩ := still_ok rz1 q1
    have eA := e1.trans e1'
    generalize r1.d = d at s1 q1'
    cases s1 <;> first | exact q1'.elim | skip
    · rename_i p xs l s r
      exact ⟨p, xs, rfl, .inr ⟨SqT.of (rel1'.fh _ _ s), k _ μ1 F1' H1 _ rel1' eA (serves_enumT hK (SqT.of s) r) q1'⟩⟩
    · rename_i p xs l s r
      exact ⟨p, xs, rfl, .inl ⟨by rw [hK]; exact SqL.of (rel1'.fh _ _ s), k _ μ1 F1' H1 _ rel1' eA (serves_enum hK s r) q1'⟩⟩
end
end PD
set_option Elab.async false
set_option linter.all false
set_option maxRecDepth 100000
set_option maxHeartbeats 4000000
/-! PD39: rules, plainly. -/
namespace PD
open PySem PySem.Spec L2
structure RuleV where
  many : Int
  first : Int
  width : Nat
  table : List Int
def ruleF (r : RuleV) : List (Str × D) := [("many", .int r.many), ("first", .int r.first), ("width", .int (r.width : Nat)), ("table", .tup (r.table.map .int)), ("window", .tup (rgD r.first (r.first + (r.width : Nat))))]
def RuleV.d (r : RuleV) : D := .ins "Rule" ["many", "first", "width", "table", "window"] [.int r.many, .int r.first, .int (r.width : Nat), .tup (r.table.map .int), .tup (rgD r.first (r.first + (r.width : Nat)))]
theorem ruleF_d (v : RuleV) : D.ins "Rule" ((ruleF v).map (·.1)) ((ruleF v).map (·.2)) = v.d := rfl
section
variable {μ : Mu} {k : D → Prop} {cns : List Str} {r : RuleV}
theorem uf_many (h : ("Rule" : Str) ∈ cns) (q : k (.int r.many)) : fldAt cns "many" μ r.d k := fld_ins h rfl q
theorem uf_first (h : ("Rule" : Str) ∈ cns) (q : k (.int r.first)) : fldAt cns "first" μ r.d k := fld_ins h rfl q
theorem uf_width (h : ("Rule" : Str) ∈ cns) (q : k (.int (r.width : Nat))) : fldAt cns "width" μ r.d k := fld_ins h rfl q
theorem uf_table (h : ("Rule" : Str) ∈ cns) (q : k (.tup (r.table.map .int))) : fldAt cns "table" μ r.d k := fld_ins h rfl q
theorem uf_window (h : ("Rule" : Str) ∈ cns) (q : k (.tup (rgD r.first (r.first + (r.width : Nat))))) : fldAt cns "window" μ r.d k := fld_ins h rfl q
end
/-- the width of a table of so many signs, or 0 -/
def wBy (m size : Int) : Nat := match (List.range 10).find? (fun i => decide (size ≤ 1024) && decide (m ^ (i + 1) = size)) with
  | some i => i + 1
  | none => 0
theorem pow_inj {m : Int} (hm : 2 ≤ m) {i j : Nat} (h : m ^ i = m ^ j) : i = j := by
  obtain ⟨n, rfl⟩ : ∃ n : Nat, m = n := ⟨m.toNat, by omega⟩
  have h : n ^ i = n ^ j := by exact_mod_cast h
  have hn : 1 < n := by omega
  rcases Nat.lt_trichotomy i j with c | c | c
  · have := Nat.pow_lt_pow_right hn c; omega
  · exact c
  · have := Nat.pow_lt_pow_right hn c; omega
theorem wBy_some {m size : Int} {w : Nat} (hm : 2 ≤ m) (hw : 1 ≤ w ∧ w ≤ 10) (h : m ^ w = size) (hz : size ≤ 1024) : wBy m size = w := by
  obtain ⟨v, rfl⟩ : ∃ v, w = v + 1 := ⟨w - 1, by omega⟩
  have e : (List.range 10).find? (fun i => decide (size ≤ 1024) && decide (m ^ (i + 1) = size)) = some v := by
    rw [List.find?_range_eq_some]
    refine ⟨by rw [decide_eq_true hz, decide_eq_true h]; rfl, List.mem_range.mpr (by omega), fun j hj => ?_⟩
    have : ¬ m ^ (j + 1) = size := fun z => by
      have := pow_inj hm (z.trans h.symm)
      omega
    rw [decide_eq_false this, Bool.and_false]
    rfl
  unfold wBy
  rw [e]
theorem wBy_hit {m size : Int} {i : Nat} (hi : i < 10) (h : (decide (size ≤ 1024) && decide (m ^ (i + 1) = size)) = true) (hn : ∀ j < i, (decide (size ≤ 1024) && decide (m ^ (j + 1) = size)) = false) : wBy m size = i + 1 := by
  unfold wBy
  rw [List.find?_range_eq_some.mpr ⟨h, List.mem_range.mpr hi, fun j hj => by rw [hn j hj]; rfl⟩]
theorem wBy_none {m size : Int} (hn : ∀ j < 10, (decide (size ≤ 1024) && decide (m ^ (j + 1) = size)) = false) : wBy m size = 0 := by
  unfold wBy
  have e : (List.range 10).find? (fun i => decide (size ≤ 1024) && decide (m ^ (i + 1) = size)) = none := by
    rw [List.find?_eq_none]
    intro x hx
    rw [hn x (List.mem_range.mp hx)]
    decide
  rw [e]
theorem wBy_pos {m size : Int} (h : wBy m size ≠ 0) : (1 ≤ wBy m size ∧ wBy m size ≤ 10) ∧ m ^ wBy m size = size ∧ size ≤ 1024 := by
  unfold wBy at h ⊢
  cases e : (List.range 10).find? (fun i => decide (size ≤ 1024) && decide (m ^ (i + 1) = size)) with
  | none => rw [e] at h; exact absurd rfl h
  | some i =>
    rw [List.find?_range_eq_some] at e
    obtain ⟨e1, e2, _⟩ := e
    rw [Bool.and_eq_true, decide_eq_true_eq, decide_eq_true_eq] at e1
    have := List.mem_range.mp e2
    exact ⟨⟨by show 1 ≤ i + 1; omega, by show i + 1 ≤ 10; omega⟩, e1.2, e1.1⟩
/-- a told rule's values are in order -/
structure GR (r : RuleV) : Prop where
  hm : 2 ≤ r.many ∧ r.many ≤ 4
  hs : Signs r.many r.table
  hw : 1 ≤ r.width ∧ r.width ≤ 10
  hl : r.table.length = r.many.toNat ^ r.width
  hz : r.table.length ≤ 1024
  hf : -40 ≤ r.first ∧ r.first + (r.width : Nat) ≤ 41
theorem pow_cast {m : Int} (hm : 0 ≤ m) (n : Nat) : ((m.toNat ^ n : Nat) : Int) = m ^ n := by
  rw [Int.natCast_pow, Int.toNat_of_nonneg hm]
theorem GR.wby {r : RuleV} (g : GR r) : wBy r.many r.table.length = r.width :=
  wBy_some (by have := g.hm; omega) g.hw (by rw [g.hl, pow_cast (by have := g.hm; omega)]) (by have := g.hz; omega)
theorem GR.of {m first : Int} {t : List Int} (hm : 2 ≤ m ∧ m ≤ 4) (hs : Signs m t) (hw : wBy m t.length ≠ 0) (hf : -40 ≤ first ∧ first + (wBy m t.length : Nat) - 1 ≤ 40) : GR ⟨m, first, wBy m t.length, t⟩ := by
  obtain ⟨h1, h2, h3⟩ := wBy_pos hw
  refine ⟨hm, hs, h1, ?_, by show t.length ≤ 1024; omega, by show -40 ≤ first ∧ first + (wBy m t.length : Nat) ≤ 41; omega⟩
  show t.length = m.toNat ^ wBy m t.length
  have : ((m.toNat ^ wBy m t.length : Nat) : Int) = t.length := by rw [pow_cast (by omega)]; exact h2
  omega
/-- the sign that a table has for a word -/
def tAt (t : List Int) (m : Int) (w : List Int) : Int := t.getD (nums w m).toNat 0
/-- a word turned -/
def tTurn (t : List Int) (m : Int) (k : Nat) (w : List Int) : List Int := (List.range (w.length + 1 - k)).map fun i => tAt t m ((w.drop i).take k)
def RuleV.turn (r : RuleV) (w : List Int) : List Int := tTurn r.table r.many r.width w
theorem tTurn_len {t : List Int} {m : Int} {k : Nat} {w : List Int} : (tTurn t m k w).length = w.length + 1 - k := by
  unfold tTurn
  rw [List.length_map, List.length_range]
theorem nums_lt {m : Int} (hm : 0 < m) {w : List Int} (h : Signs m w) : 0 ≤ nums w m ∧ nums w m < m ^ w.length := by
  have := digs_nums hm w h
  exact this.2
theorem tab_at {t w : List Int} {m : Int} {k : Nat} (hm : 0 < m) (hl : t.length = m.toNat ^ k) (hw : w.length = k) (h : Signs m w) : 0 ≤ nums w m ∧ nums w m < t.length := by
  have := nums_lt hm h
  rw [hw, ← pow_cast (by omega)] at this
  rw [hl]
  exact this
theorem tAt_mem {t w : List Int} {m : Int} {k : Nat} (hm : 0 < m) (hl : t.length = m.toNat ^ k) (hw : w.length = k) (h : Signs m w) : tAt t m w ∈ t := by
  obtain ⟨h1, h2⟩ := tab_at hm hl hw h
  unfold tAt
  have hi : (nums w m).toNat < t.length := by omega
  rw [List.getD_eq_getElem?_getD, List.getElem?_eq_getElem hi]
  exact List.getElem_mem hi
theorem take_signs {m : Int} {w : List Int} {i k : Nat} (h : Signs m w) : Signs m ((w.drop i).take k) := fun x hx => h x (List.mem_of_mem_drop (List.mem_of_mem_take hx))
theorem drop_signs {m : Int} {w : List Int} {i : Nat} (h : Signs m w) : Signs m (w.drop i) := fun x hx => h x (List.mem_of_mem_drop hx)
theorem tTurn_signs {t w : List Int} {m : Int} {k : Nat} (hm : 0 < m) (hl : t.length = m.toNat ^ k) (ht : Signs m t) (h : Signs m w) : Signs m (tTurn t m k w) := fun x hx => by
  obtain ⟨i, hi, rfl⟩ := List.mem_map.mp hx
  have := List.mem_range.mp hi
  exact ht _ (tAt_mem hm hl (by rw [List.length_take, List.length_drop]; omega) (take_signs h))
theorem atI_last {l : List D} (h : l ≠ []) : ∃ d, atI l (-1) = some d ∧ d ∈ l := by
  have hp := List.length_pos_iff.mpr h
  refine ⟨l[l.length - 1], ?_, List.getElem_mem _⟩
  have e : ixN l.length (-1) = some (l.length - 1) := by
    unfold ixN
    rw [if_neg (by decide), if_pos (by omega)]
    congr 1
    omega
  unfold atI
  rw [e]
  exact List.getElem?_eq_getElem _
theorem cutD_but {l : List D} (h : l ≠ []) : cutD l none (some (-1)) = l.take (l.length - 1) := by
  have hp := List.length_pos_iff.mpr h
  unfold cutD
  rw [HT.sIx_none, List.drop_zero, Nat.sub_zero]
  congr 1
  show (if (-1 : Int) < 0 then ((-1 : Int) + (l.length : Int)).toNat else min (-1 : Int).toNat l.length) = _
  rw [if_pos (by decide)]
  omega
def pairI (g : Int → Int → Int) (d : D) : D := match d with
  | .tup [.int x, .int y] => .int (g x y)
  | d => d
theorem zip_ints {w s : List Int} {g : Int → Int → Int} : (zipD (w.map .int) (s.map .int)).map (pairI g) = ((w.zip s).map fun p => g p.1 p.2).map D.int := by
  unfold zipD
  rw [List.zip_map, List.map_map, List.map_map, List.map_map]
  rfl
theorem zip_in {l m : List D} {d : D} (h : d ∈ zipD l m) : ∃ x y, d = .tup [x, y] ∧ x ∈ l ∧ y ∈ m := by
  obtain ⟨p, hp, rfl⟩ := List.mem_map.mp h
  exact ⟨p.1, p.2, rfl, (List.of_mem_zip hp).1, (List.of_mem_zip hp).2⟩
theorem signs_D {m : Int} {f : List D} (h : ∀ d ∈ f, ∃ k : Int, d = .int k ∧ 0 ≤ k ∧ k < m) : ∃ l : List Int, f = l.map .int ∧ Signs m l := by
  induction f with
  | nil => exact ⟨[], rfl, fun k h => by cases h⟩
  | cons a f ih =>
    obtain ⟨l, rfl, hl⟩ := ih fun d hd => h d (List.mem_cons_of_mem _ hd)
    obtain ⟨k, rfl, h1, h2⟩ := h a (List.mem_cons_self ..)
    exact ⟨k :: l, rfl, fun x hx => by
      rcases List.mem_cons.mp hx with rfl | hx
      · exact ⟨h1, h2⟩
      · exact hl x hx⟩
theorem erase_perm {α : Type} : ∀ {l : List α} {i : Nat} (h : i < l.length), (l[i] :: l.eraseIdx i).Perm l
  | a :: l, 0, h => .refl _
  | a :: l, i + 1, h => by
    have hi : i < l.length := by simpa using h
    have ih := erase_perm hi
    show (l[i] :: a :: l.eraseIdx i).Perm (a :: l)
    exact (List.Perm.swap _ _ _).trans (ih.cons a)
/-- a place, not opened by itself -/
@[irreducible] def dIxO (x y : D) (Q : R → Prop) : Prop := dIx x y Q
theorem ixo {x y : D} {Q : R → Prop} (h : dIx x y Q) : dIxO x y Q := by
  unfold dIxO
  exact h
theorem ixo_of {x y : D} {Q : R → Prop} (h : dIxO x y Q) : dIx x y Q := by
  unfold dIxO at h
  exact h
theorem px_atO {X : Cx} {f : Fm} {W : WX} {a b : Expr} {wa wb : WE} {pos : Pos} (hK : X.K = f.c.K) (ha : PX X f W a wa) (hb : PX X f W b wb) (hs : PlainIx b := by intro _ _; rfl) : PX X f W (.Subscript a b pos) (wBin dIxO wa wb) :=
  px_ix ix_seq (fun env μ σ F H r1 r2 v1 v2 Q Qp e1 e2 e3 e4 e5 e6 => opD_ix env μ σ F H r1 r2 v1 v2 Q Qp e1 e2 e3 e4 (ixo_of e5) e6) hK ha hb hs
theorem cutD_mid {l : List D} {a b : Nat} (ha : a ≤ b) (hb : b ≤ l.length) : cutD l (some (a : Int)) (some (b : Int)) = (l.drop a).take (b - a) := by
  unfold cutD
  rw [HT.sIx_nat, HT.sIx_nat, Nat.min_eq_left (show a ≤ l.length by omega), Nat.min_eq_left hb]
end PD
set_option Elab.async false
set_option linter.all false
set_option maxRecDepth 100000
set_option maxHeartbeats 2000000
/-! PDK4: t[::k] of a tuple. -/
namespace L2
open PySem PySem.Spec PyProof.Rows HT
section
variable {prog : Program} {w : World} {A : Around} {E : Value → Shared → Prop} {s : Shared}
/-- every c-th item, from the end where c is below nought -/
def stepL {α : Type} (xs : List α) (c : Int) : List α :=
  (List.range (Builtin.Slice.slicePlaces (Builtin.Slice.sliceAdjust none none c xs.length).1 (Builtin.Slice.sliceAdjust none none c xs.length).2 c)).filterMap fun (m : Nat) => xs[((Builtin.Slice.sliceAdjust none none c xs.length).1 + (m : Int) * c).toNat]?
theorem slicePart_int {vs : Value} {c : Int} {Q : Option Int → Shared → Prop} (ps : IsPart vs (some c)) (h : Q (some c) s) : wpAny (model prog w) A (Builtin.Slice.slicePartIndex vs) Q E s := slicePart_ ps h
theorem sliceApplied_step {sl : Addr} {vl vu vs : Value} {c : Int} {n : Nat} {Q : Int × Int × Nat → Shared → Prop} (hs : s.heap.IsSliceOf sl vl vu vs) (pl : IsPart vl none) (pu : IsPart vu none) (ps : IsPart vs (some c)) (h0 : c ≠ 0)
    (h : Q ((Builtin.Slice.sliceAdjust none none c n).1, c, Builtin.Slice.slicePlaces (Builtin.Slice.sliceAdjust none none c n).1 (Builtin.Slice.sliceAdjust none none c n).2 c) s) : wpAny (model prog w) A (Builtin.Slice.sliceApplied (.ref sl) (pure (n : Int))) Q E s := by
  obtain ⟨os, hos, hcs, hds⟩ := id hs
  unfold Builtin.Slice.sliceApplied Builtin.Slice.sliceFields
  refine wpAny_bind (wpAny_bind (wpAny_field hos hds (x := vl) rfl (wpAny_bind (wpAny_field hos hds (x := vu) rfl (wpAny_bind (wpAny_field hos hds (x := vs) rfl (wpAny_pure ?_)))))))
  refine wpAny_bind (slicePart_int ps ?_)
  show wpAny _ _ (if (c == 0) = true then _ else _) _ _ s
  rw [if_neg (fun q => h0 (eq_of_beq q))]
  refine wpAny_bind (slicePart_ pl (wpAny_bind (slicePart_ pu (wpAny_bind (wpAny_pure ?_)))))
  exact wpAny_pure h
theorem getItem_tuple_step {t sl : Addr} {items : Array Value} {vl vu vs : Value} {c : Int} {Q : Value → Shared → Prop} (ht : IsTup s.heap t items) (hs : s.heap.IsSliceOf sl vl vu vs) (pl : IsPart vl none) (pu : IsPart vu none) (ps : IsPart vs (some c)) (h0 : c ≠ 0) (h1 : c ≠ 1)
    (h : Q (.ref s.heap.objs.size) { s with heap := s.heap.push { cls := .type "tuple", data := .seq (stepL items.toList c).toArray } })
    (hsz : (stepL items.toList c).length ≤ sizeLine) : wpAny (model prog w) A (getItem (.ref t) (.ref sl)) Q E s := by
  have htake : sizeOk (.seq (stepL items.toList c).toArray) := by
    show (stepL items.toList c).toArray.size ≤ sizeLine
    rw [List.size_toArray]
    exact hsz
  obtain ⟨os, hos, hcs, hds⟩ := id hs
  have hTs : s.TypeIs (.ref sl) "slice" := ⟨os, hos, hcs⟩
  unfold getItem
  try with_reducible refine wpAny_holding ?_
  first | refine wpAny_bind (wpAny_pure ?_) | skip
  refine wpAny_bind (wpAny_sequenceKey ht.typeIs (by decide) ?_)
  refine wpAny_bind (wpAny_callSpecial?_slot (name := Str.ofString "__getitem__") ht.typeIs PyProof.Rows.slot_tuple_getitem
    (wpAny_call_entry PyProof.Rows.slot_tuple_getitem ht.typeIs entry_tuple_getitem ?_ (args_tuple_getitem _ _)))
  show wpAny _ _ (Builtin.Tuple.tupleItemsOf (.ref t) >>= _) _ _ s
  refine wpAny_bind (tupleItemsOf_ ht ?_)
  refine wpAny_bind (wpAny_typeOf hTs ?_)
  rw [if_pos (by decide)]
  refine wpAny_bind (sliceApplied_step (n := items.size) hs pl pu ps h0 ?_)
  have hno : ∀ a b : Bool, ¬ ((a && c == 1 && b) = true) := fun a b q => by
    rw [Bool.and_eq_true, Bool.and_eq_true] at q
    exact h1 (eq_of_beq q.1.2)
  show wpAny _ _ (if (((Builtin.Slice.sliceAdjust none none c (items.size : Int)).1 == 0) && c == 1 && (_ == items.size)) = true then _ else _) _ _ s
  rw [if_neg (hno _ _)]
  have ep : ((List.range (Builtin.Slice.slicePlaces (Builtin.Slice.sliceAdjust none none c (items.size : Int)).1 (Builtin.Slice.sliceAdjust none none c (items.size : Int)).2 c)).filterMap fun (m : Nat) => items[((Builtin.Slice.sliceAdjust none none c (items.size : Int)).1 + (m : Int) * c).toNat]?) = stepL items.toList c := by
    unfold stepL
    rw [Array.length_toList]
    congr 1
    funext m
    rw [Array.getElem?_toList]
  rw [ep]
  first
    | exact wpAny_bind (m := Builtin.Tuple.tupleExact _) (wpAny_newObj_type (wpAny_pure ⟨_, rfl, wpAny_pure h⟩) htake)
    | exact wpAny_bind (m := Builtin.Tuple.tupleExact _) (wpAny_newObj_type (wpAny_bind (wpAny_pure (wpAny_pure ⟨_, rfl, wpAny_pure h⟩))) htake)
    | exact wpAny_bind (wpAny_bind (m := Builtin.Tuple.tupleExact _) (wpAny_newObj_type (wpAny_pure (wpAny_pure ⟨_, rfl, wpAny_pure h⟩)) htake))
    | exact wpAny_bind (wpAny_bind (m := Builtin.Tuple.tupleExact _) (wpAny_newObj_type (wpAny_pure ⟨_, rfl, wpAny_pure h⟩) htake))
end
theorem vals_pick {xs : List V} {us : List Value} (r : Vals xs us) (g : Nat → Nat) : ∀ l : List Nat, Vals (l.filterMap fun m => xs[g m]?) (l.filterMap fun m => us[g m]?)
  | [] => .nil
  | m :: l => by
    have ih := vals_pick r g l
    cases e : xs[g m]? with
    | none =>
      have e2 : us[g m]? = none := by
        rw [List.getElem?_eq_none_iff] at e ⊢
        rw [← r.length]
        exact e
      rw [List.filterMap_cons, List.filterMap_cons, e, e2]
      exact ih
    | some x =>
      obtain ⟨u, hu, ru⟩ := r.get e
      rw [List.filterMap_cons, List.filterMap_cons, e, hu]
      exact .cons ru ih
theorem vals_step {xs : List V} {us : List Value} (r : Vals xs us) (c : Int) : Vals (stepL xs c) (stepL us c) := by
  unfold stepL
  rw [r.length]
  exact vals_pick r _ _
def tStepT (K : PySem.W.Frag) (te : TE) (tp : TO) : TE := fun σ H Q => te σ H fun x H1 => tp σ H1 fun o H2 => ∃ (a : Addr) (xs : List V) (c : Int), x = .ref a ∧ o = some c ∧ SqT K H2 a xs ∧ c ≠ 0 ∧ c ≠ 1 ∧ (stepL xs c).length ≤ sizeLine ∧ ∀ p, H2 p = none → Q (.ref p) (upd H2 p (.tup (stepL xs c)))
theorem len_pick {xs : List V} {us : List Value} (r : Vals xs us) (c : Int) : (stepL us c).length = (stepL xs c).length := (vals_step r c).length.symm
theorem pe_stepT {X : Cx} {e st : Expr} {te : TE} {tp : TO} {p3 pos : Pos} (he : PE X e te) (hst : PO X (some st) tp) : PE X (.Subscript e (.Slice none none (some st) p3) pos) (tStepT X.K te tp) := by
  refine ⟨fun pins s σ H Q I h => ?_⟩
  refine Subscript_ (thn (he.run pins s σ H _ I h) fun v s1 ⟨x, H1, I1, r1, q1⟩ => ?_)
  refine wpAny_Slice (thn (po_none.run pins s1 σ H1 (fun o H2 => o = none ∧ H2 = H1) I1 ⟨rfl, rfl⟩) fun vl s2 ⟨l, H2, I2, pl, el, e2⟩ => ?_)
  subst el e2
  refine thn (po_none.run pins s2 σ H2 (fun o H3 => o = none ∧ H3 = H2) I2 ⟨rfl, rfl⟩) fun vu s3 ⟨u, H3, I3, pu, eu, e3⟩ => ?_
  subst eu e3
  refine thn (hst.run pins s3 σ H3 _ I3 q1) fun vs s4 ⟨o, H4, I4, ps, q4⟩ => ?_
  obtain ⟨a, xs, c, ex, eo, hx, h0, h1, hz, q⟩ := q4
  subst ex eo
  cases r1
  have I5 : Inv X pins σ H4 { s4 with heap := s4.heap.push { cls := .type "slice", data := .fields #[vl, vu, vs] } } := I4.kept (t' := s4.toks) fun b ob q => Heap.get?_push_of_some _ q
  obtain ⟨its, r, ht, _⟩ := I5.tuple hx
  show wpAny (model X.prog X.w) X.A (subscriptTail e (.Slice none none (some st) p3) (.ref a) (.ref s4.heap.objs.size)) (EP X pins σ Q) X.xe { s4 with heap := s4.heap.push { cls := .type "slice", data := .fields #[vl, vu, vs] } }
  refine tail_any (ops := [.ref a, .ref s4.heap.objs.size]) ht.typeIs (PyProof.Rows.slot_tuple_getitem.lookup) ?_ (by with_unfolding_all rfl)
  have zz : (stepL its.toArray.toList c).length ≤ sizeLine := by
    rw [List.toList_toArray, len_pick r]
    exact hz
  refine getItem_tuple_step ht (Heap.IsSliceOf.new _ vl vu vs) pl pu ps h0 h1 ?_ zz
  refine ⟨.ref _, _, I5.laid (t' := s4.toks) (o := .tup (stepL xs c)) (fun b ob q => Heap.get?_push_of_some _ q) (Nat.le_refl _) ?_, rfl, q _ (I5.hok.fresh (Nat.le_refl _))⟩
  exact ⟨hz, _, (by rw [List.toList_toArray]; exact vals_step r c), IsTup.new _ _⟩
end L2
set_option Elab.async false
set_option linter.all false
set_option maxRecDepth 100000
set_option maxHeartbeats 4000000
/-! PD40: t[::k]; things that have a count of signs. -/
namespace PD
open PySem PySem.Spec L2
section
variable {X : Cx} {f : Fm} {W : WX} {a b : Expr} {wa wb : WE} {pos : Pos} {env : Ev} {μ : Mu} {σ : L2.St} {F H : Hp}
theorem reps_pick {c : Cfg} {xs : List V} {l : List D} (r : Reps c F xs l) (g : Nat → Nat) : ∀ k : List Nat, Reps c F (k.filterMap fun m => xs[g m]?) (k.filterMap fun m => l[g m]?)
  | [] => .nil
  | m :: k => by
    have ih := reps_pick r g k
    cases e : l[g m]? with
    | none =>
      have e2 : xs[g m]? = none := by
        rw [List.getElem?_eq_none_iff] at e ⊢
        rw [r.len]
        exact e
      rw [List.filterMap_cons, List.filterMap_cons, e, e2]
      exact ih
    | some x =>
      obtain ⟨u, hu, ru⟩ := r.get e
      rw [List.filterMap_cons, List.filterMap_cons, e, hu]
      exact .cons ru ih
theorem reps_step {c : Cfg} {xs : List V} {l : List D} (r : Reps c F xs l) (k : Int) : Reps c F (stepL xs k) (stepL l k) := by
  unfold stepL
  rw [r.len]
  exact reps_pick r _ _
def wStep (wa : WE) (wo : WO) : WE := fun env μ Q E => wa env μ (fun r μ1 => wo env μ1 (fun o μ2 => match r.d, o with
  | .tup l, some c => c ≠ 0 ∧ c ≠ 1 ∧ (stepL l c).length ≤ sizeLine ∧ Q (.fz (.tup (stepL l c))) μ2
  | _, _ => False) E) E
theorem px_step {p3 : Pos} {wo : WO} (hK : X.K = f.c.K) (ha : PX X f W a wa) (hb : PXO X f W (some b) wo) : PX X f W (.Subscript a (.Slice none none (some b) p3) pos) (wStep wa wo) :=
  pe_imp (pe_stepT ha hb) fun σ H Q h => by
    obtain ⟨env, μ, F, Qp, Ep, rel, hw, k, kx⟩ := h
    refine ⟨env, μ, F, _, Ep, rel, hw, fun r1 μ1 v1 F1 H1 rel1 e1 rr1 q1 => ?_, kx⟩
    obtain ⟨F1', rel1', e1', rz1⟩ := settle rel1 rr1
    have eA := e1.trans e1'
    refine ⟨env, μ1, F1', _, Ep, rel1', q1, fun o μ2 F2 H2 rel2 e2 q2 => ?_, fun x μ2 cls d F2 H2 rel2 e2 xr q2 => kx x μ2 cls d F2 H2 rel2 (eA.trans e2) xr q2⟩
    have rz2 := rz1.mono e2
    cases d1 : r1.d <;> cases o <;> simp only [d1] at q2 <;> first | exact q2.elim | skip
    rename_i l c
    obtain ⟨h0, h1, hz, q3⟩ := q2
    obtain ⟨p, xs, rfl, g1, g2⟩ := rz2.tup rel2 d1
    have rs := reps_step g2 c
    exact ⟨p, xs, c, rfl, rfl, by rw [hK]; exact g1, h0, h1, by rw [rs.len]; exact hz, yield_tup rel2 rs fun v F' H' r' s' rr => k _ μ2 v F' H' r' ((eA.trans e2).trans s') rr q3⟩
end
theorem pick_take {α : Type} (ys : List α) : ∀ k : Nat, (List.range k).filterMap (fun m => ys[m]?) = ys.take k
  | 0 => rfl
  | k + 1 => by
    rw [List.range_succ, List.filterMap_append, pick_take ys k, List.take_add_one]
    congr 1
theorem pick_all {α : Type} {g : Nat → Option α} {ys : List α} {n : Nat} (hn : ys.length = n) (h : ∀ m < n, g m = ys[m]?) : (List.range n).filterMap g = ys := by
  have e : (List.range n).filterMap g = (List.range n).filterMap (fun m => ys[m]?) := by
    have : ∀ l : List Nat, (∀ m ∈ l, m < n) → l.filterMap g = l.filterMap fun m => ys[m]? := by
      intro l
      induction l with
      | nil => intro _; rfl
      | cons m l ih =>
        intro hl
        rw [List.filterMap_cons, List.filterMap_cons, h m (hl m (List.mem_cons_self ..)), ih fun x hx => hl x (List.mem_cons_of_mem _ hx)]
    exact this _ fun m hm => List.mem_range.mp hm
  rw [e, pick_take, List.take_of_length_le (by omega)]
theorem step_rev {α : Type} (xs : List α) : stepL xs (-1) = xs.reverse := by
  unfold stepL
  have e1 : Builtin.Slice.sliceAdjust none none (-1) (xs.length : Int) = ((xs.length : Int) - 1, -1) := rfl
  rw [e1]
  have e2 : Builtin.Slice.slicePlaces ((xs.length : Int) - 1) (-1) (-1) = xs.length := by
    unfold Builtin.Slice.slicePlaces
    rw [if_neg (by decide)]
    by_cases c : 0 < xs.length
    · rw [if_pos (by omega)]
      have : ((xs.length : Int) - 1 - -1 - 1) / (- -1) = (xs.length : Int) - 1 := by
        rw [show (- -1 : Int) = 1 by decide, Int.ediv_one]
        omega
      rw [this]
      omega
    · rw [if_neg (by omega)]
      show 0 = xs.length
      omega
  show (List.range (Builtin.Slice.slicePlaces ((xs.length : Int) - 1) (-1) (-1))).filterMap _ = _
  rw [e2]
  refine pick_all (List.length_reverse ..) fun m hm => ?_
  rw [List.getElem?_reverse hm]
  congr 1
  show ((xs.length : Int) - 1 + (m : Int) * -1).toNat = _
  omega
theorem step_map {α β : Type} (g : α → β) (xs : List α) (c : Int) : stepL (xs.map g) c = (stepL xs c).map g := by
  unfold stepL
  rw [List.length_map]
  generalize List.range _ = l
  induction l with
  | nil => rfl
  | cons m l ih =>
    rw [List.filterMap_cons, List.filterMap_cons, ih, List.getElem?_map]
    cases xs[((Builtin.Slice.sliceAdjust none none c xs.length).1 + (m : Int) * c).toNat]? <;> rfl
theorem step_pos {α : Type} {xs : List α} {k j : Nat} (hk : 0 < k) (hl : xs.length = k * j) : stepL xs (k : Int) = (List.range j).filterMap fun i => xs[i * k]? := by
  unfold stepL
  have e1 : Builtin.Slice.sliceAdjust none none (k : Int) (xs.length : Int) = (0, (xs.length : Int)) := by
    unfold Builtin.Slice.sliceAdjust
    have : ¬ (k : Int) < 0 := by omega
    simp only [this, if_false]
  rw [e1]
  have e2 : Builtin.Slice.slicePlaces 0 (xs.length : Int) (k : Int) = j := by
    unfold Builtin.Slice.slicePlaces
    rw [if_pos (by omega)]
    by_cases c : 0 < j
    · have hp : 0 < k * j := Nat.mul_pos hk c
      rw [if_pos (by omega)]
      have : ((xs.length : Int) - 0 - 1) / (k : Int) = (j : Int) - 1 := by
        have e3 : (xs.length : Int) - 0 - 1 = ((k : Int) - 1) + (k : Int) * ((j : Int) - 1) := by
          rw [hl, Int.natCast_mul, Int.mul_sub]
          omega
        rw [e3, Int.add_mul_ediv_left _ _ (by omega), Int.ediv_eq_zero_of_lt (by omega) (by omega)]
        omega
      rw [this]
      omega
    · have : j = 0 := by omega
      subst this
      rw [if_neg (by omega)]
      rfl
  show (List.range (Builtin.Slice.slicePlaces 0 (xs.length : Int) (k : Int))).filterMap _ = _
  rw [e2]
  congr 1
  funext m
  congr 1
  show ((0 : Int) + (m : Int) * (k : Int)).toNat = m * k
  rw [Int.zero_add, ← Int.natCast_mul, Int.toNat_natCast]
theorem step_len {α : Type} (xs : List α) (c : Int) : (stepL xs c).length ≤ Builtin.Slice.slicePlaces (Builtin.Slice.sliceAdjust none none c xs.length).1 (Builtin.Slice.sliceAdjust none none c xs.length).2 c := by
  unfold stepL
  refine Nat.le_trans (List.length_filterMap_le _ _) ?_
  rw [List.length_range]
  exact Nat.le_refl _
/-- a thing that has a count of signs -/
def HasMany (cns : List Str) (x : D) (m : Int) : Prop := (∃ v : RowV, x = v.d ∧ m = v.many ∧ ("Row" : Str) ∈ cns) ∨ (∃ r : RuleV, x = r.d ∧ m = r.many ∧ ("Rule" : Str) ∈ cns)
theorem hasMany_fld {cns : List Str} {x : D} {m : Int} {μ : Mu} {k : D → Prop} (h : HasMany cns x m) (q : k (.int m)) : fldAt cns "many" μ x k := by
  rcases h with ⟨v, rfl, rfl, h⟩ | ⟨r, rfl, rfl, h⟩
  · exact rf_many h q
  · exact uf_many h q
theorem HasMany.row {cns : List Str} {v : RowV} (h : ("Row" : Str) ∈ cns) : HasMany cns v.d v.many := .inl ⟨v, rfl, rfl, h⟩
theorem HasMany.rule {cns : List Str} {r : RuleV} (h : ("Rule" : Str) ∈ cns) : HasMany cns r.d r.many := .inr ⟨r, rfl, rfl, h⟩
end PD
set_option Elab.async false
set_option linter.all false
set_option maxRecDepth 100000
set_option maxHeartbeats 4000000
/-! PD41: rows turned, plainly. -/
namespace PD
open PySem PySem.Spec L2
/-- a rule's values as a tuple -/
def RuleV.t (r : RuleV) : D := .tup [.int r.many, .int r.first, .int (r.width : Nat), .tup (r.table.map .int)]
/-- a row may be laid -/
structure LaidOk (m : Int) (l mi r : List Int) (st : Int) : Prop where
  hm : 2 ≤ m ∧ m ≤ 4
  hl : l ≠ []
  hr : r ≠ []
  sl : Signs m l
  si : Signs m mi
  sr : Signs m r
  zl : l.length ≤ 100000
  zm : mi.length ≤ 100000
  zr : r.length ≤ 100000
  ok : (rowV m l mi r st).ok = true
theorem GRow.laid {m st : Int} {l mi r : List Int} (hm : 2 ≤ m ∧ m ≤ 4) (g : GRow m l mi r st) : LaidOk m l mi r st := by
  have zl := g.zl
  have zr := g.zr
  have zm := g.zm
  exact ⟨hm, g.hl, g.hr, g.sl, g.si, g.sr, by omega, by omega, by omega, g.ok⟩
theorem LaidOk.gv {m st : Int} {l mi r : List Int} (g : LaidOk m l mi r st) : GV (rowV m l mi r st) := GV.of g.hm g.hl g.hr g.sl g.si g.sr g.ok
/-- the cells turned -/
def turnC (r : RuleV) (c : Int → Int) (p : Int) : Int := tAt r.table r.many ((List.range r.width).map fun s => c (p + r.first + (s : Nat)))
def oLow (r : RuleV) (st : Int) : Int := st - r.first - (r.width : Nat) + 1
def oInn (r : RuleV) (mi : List Int) : Nat := mi.length + r.width - 1
def oL (r : RuleV) (l mi rr : List Int) (st : Int) : List Int := (List.range l.length).map fun s => turnC r (celAt l mi rr st) (oLow r st - l.length + (s : Nat))
def oM (r : RuleV) (l mi rr : List Int) (st : Int) : List Int := (List.range (oInn r mi)).map fun s => turnC r (celAt l mi rr st) (oLow r st + (s : Nat))
def oR (r : RuleV) (l mi rr : List Int) (st : Int) : List Int := (List.range rr.length).map fun s => turnC r (celAt l mi rr st) (oLow r st + (oInn r mi : Nat) + (s : Nat))
section
variable {r : RuleV} {l mi rr : List Int} {st m : Int}
theorem oL_len : (oL r l mi rr st).length = l.length := by unfold oL; rw [List.length_map, List.length_range]
theorem oM_len : (oM r l mi rr st).length = oInn r mi := by unfold oM; rw [List.length_map, List.length_range]
theorem oR_len : (oR r l mi rr st).length = rr.length := by unfold oR; rw [List.length_map, List.length_range]
theorem oL_ne (h : l ≠ []) : oL r l mi rr st ≠ [] := by
  have := List.length_pos_iff.mpr h
  exact List.length_pos_iff.mp (by rw [oL_len]; exact this)
theorem oR_ne (h : rr ≠ []) : oR r l mi rr st ≠ [] := by
  have := List.length_pos_iff.mpr h
  exact List.length_pos_iff.mp (by rw [oR_len]; exact this)
theorem turnC_congr {c c' : Int → Int} {p q : Int} (h : ∀ s : Nat, s < r.width → c (p + r.first + (s : Nat)) = c' (q + r.first + (s : Nat))) : turnC r c p = turnC r c' q := by
  unfold turnC
  rw [List.map_congr_left fun s hs => h s (List.mem_range.mp hs)]
theorem once_cel (hl : l ≠ []) (hr : rr ≠ []) (hw : 1 ≤ r.width) (p : Int) : celAt (oL r l mi rr st) (oM r l mi rr st) (oR r l mi rr st) (oLow r st) p = turnC r (celAt l mi rr st) p := by
  refine celAt_cut (d := turnC r (celAt l mi rr st)) (a := l.length) (b := rr.length) (low := oLow r st) (high := oLow r st + (oInn r mi : Nat)) (List.length_pos_iff.mpr hl) (List.length_pos_iff.mpr hr) (by omega) (fun p hp => ?_) (fun p hp => ?_) rfl ?_ rfl p
  · refine turnC_congr fun s hs => ?_
    rw [show p - (l.length : Int) + r.first + (s : Nat) = (p + r.first + (s : Nat)) - l.length by omega]
    exact left_per hl (by unfold oLow at hp; omega)
  · refine turnC_congr fun s hs => ?_
    rw [show p + (rr.length : Int) + r.first + (s : Nat) = (p + r.first + (s : Nat)) + rr.length by omega]
    exact right_per (by unfold oLow oInn at hp; omega)
  · unfold oM
    rw [show (oLow r st + (oInn r mi : Nat) - oLow r st).toNat = oInn r mi by omega]
/-- words cut out of cells, turned -/
theorem turn_word {b : Int} {n : Nat} (hw : 1 ≤ r.width) : r.turn (wordC l mi rr st (b + r.first) (n + r.width - 1)) = (List.range n).map fun i => turnC r (celAt l mi rr st) (b + (i : Nat)) := by
  unfold RuleV.turn tTurn
  rw [wordC_len, show n + r.width - 1 + 1 - r.width = n by omega]
  refine List.map_congr_left fun i hi => ?_
  have hi := List.mem_range.mp hi
  unfold turnC
  congr 1
  unfold wordC
  refine List.ext_getElem? fun s => ?_
  by_cases hs : s < r.width
  · rw [List.getElem?_take_of_lt hs, List.getElem?_drop, List.getElem?_map, List.getElem?_range (by omega), List.getElem?_map, List.getElem?_range hs]
    show some (celAt l mi rr st (b + r.first + ((i + s : Nat) : Int))) = some (celAt l mi rr st (b + (i : Nat) + r.first + (s : Nat)))
    congr 2
    omega
  · rw [List.getElem?_eq_none_iff.mpr (by rw [List.length_take]; omega), List.getElem?_eq_none_iff.mpr (by rw [List.length_map, List.length_range]; omega)]
theorem turnC_sign (g : GR r) {c : Int → Int} (h : ∀ p, 0 ≤ c p ∧ c p < r.many) (p : Int) : 0 ≤ turnC r c p ∧ turnC r c p < r.many := by
  have hm := g.hm
  unfold turnC
  refine g.hs _ (tAt_mem (by omega) g.hl (by rw [List.length_map, List.length_range]) fun k hk => ?_)
  obtain ⟨s, _, rfl⟩ := List.mem_map.mp hk
  exact h _
theorem cel_signs (hl : l ≠ []) (hr : rr ≠ []) (sl : Signs m l) (si : Signs m mi) (sr : Signs m rr) : ∀ p, 0 ≤ celAt l mi rr st p ∧ celAt l mi rr st p < m := cel_sign hl hr sl si sr
theorem o_signs (g : GR r) (hl : l ≠ []) (hr : rr ≠ []) (sl : Signs r.many l) (si : Signs r.many mi) (sr : Signs r.many rr) : Signs r.many (oL r l mi rr st) ∧ Signs r.many (oM r l mi rr st) ∧ Signs r.many (oR r l mi rr st) := by
  have h := turnC_sign g (cel_signs (st := st) hl hr sl si sr)
  refine ⟨fun k hk => ?_, fun k hk => ?_, fun k hk => ?_⟩
  all_goals
    obtain ⟨s, _, rfl⟩ := List.mem_map.mp hk
    exact h _
/-- a row turned once, ahead of the bounds -/
def onceV (r : RuleV) (v : RowV) : RowV := rowV v.many (oL r v.left v.mid v.right v.at_) (oM r v.left v.mid v.right v.at_) (oR r v.left v.mid v.right v.at_) (oLow r v.at_)
theorem onceV_ext (hl : l ≠ []) (hr : rr ≠ []) (hw : 1 ≤ r.width) : onceV r (rowV m l mi rr st) = rowV m (oL r l mi rr st) (oM r l mi rr st) (oR r l mi rr st) (oLow r st) := by
  obtain ⟨n1, n2⟩ := rowV_ne (m := m) (mi := mi) (st := st) hl hr
  unfold onceV
  rw [rowV_size.1]
  refine rowV_ext (oL_ne n1) (oR_ne n2) (oL_ne hl) (oR_ne hr) fun p => ?_
  rw [once_cel n1 n2 hw, once_cel hl hr hw]
  exact turnC_congr fun s _ => rowV_cell hl hr _
theorem onceV_gv {v : RowV} (g : GR r) (gv : GV v) (hm : r.many = v.many) (ok : (onceV r v).ok = true) : GV (onceV r v) := by
  have s1 := gv.s1
  have s2 := gv.s2
  have s3 := gv.s3
  obtain ⟨t1, t2, t3⟩ := o_signs (st := v.at_) g gv.n1 gv.n2 (by rw [hm]; exact s1) (by rw [hm]; exact s2) (by rw [hm]; exact s3)
  rw [hm] at t1 t2 t3
  exact GV.of gv.hm (oL_ne gv.n1) (oR_ne gv.n2) t1 t2 t3 ok
/-- so many times, none where it grows too long -/
def iterV (r : RuleV) : Nat → RowV → Option RowV
  | 0, v => some v
  | k + 1, v => match iterV r k v with
    | some u => if (onceV r u).ok = true then some (onceV r u) else none
    | none => none
theorem iterV_none {v : RowV} {i n : Nat} (h : iterV r i v = none) (hn : i ≤ n) : iterV r n v = none := by
  induction n with
  | zero =>
    obtain rfl : i = 0 := by omega
    exact h
  | succ n ih =>
    by_cases c : i = n + 1
    · rw [← c]; exact h
    · show (match iterV r n v with | some u => _ | none => none) = none
      rw [ih (by omega)]
theorem iterV_succ {v u : RowV} {i : Nat} (h : iterV r i v = some u) (ok : (onceV r u).ok = true) : iterV r (i + 1) v = some (onceV r u) := by
  show (match iterV r i v with | some u => if (onceV r u).ok = true then some (onceV r u) else none | none => none) = _
  rw [h]
  exact if_pos ok
theorem iterV_fail {v u : RowV} {i : Nat} (h : iterV r i v = some u) (ok : (onceV r u).ok = false) : iterV r (i + 1) v = none := by
  show (match iterV r i v with | some u => if (onceV r u).ok = true then some (onceV r u) else none | none => none) = _
  rw [h]
  exact if_neg (by rw [ok]; decide)
theorem onceV_many {v : RowV} : (onceV r v).many = v.many := rowV_size.1
theorem iterV_gv {v u : RowV} {n : Nat} (g : GR r) (gv : GV v) (hm : r.many = v.many) (h : iterV r n v = some u) : GV u ∧ u.many = v.many := by
  induction n generalizing u with
  | zero =>
    cases h
    exact ⟨gv, rfl⟩
  | succ n ih =>
    cases e : iterV r n v with
    | none =>
      rw [iterV_none e (Nat.le_succ n)] at h
      cases h
    | some w =>
      obtain ⟨g1, g2⟩ := ih e
      by_cases ok : (onceV r w).ok = true
      · rw [iterV_succ e ok] at h
        cases h
        exact ⟨onceV_gv g g1 (by rw [g2]; exact hm) ok, onceV_many.trans g2⟩
      · rw [iterV_fail e (by simpa using ok)] at h
        cases h
end
end PD
set_option Elab.async false
set_option linter.all false
set_option maxRecDepth 100000
set_option maxHeartbeats 4000000
/-! PD42: rows turned: the cuts, and rows turned many times. -/
namespace PD
open PySem PySem.Spec L2
theorem rng_mid {f g : Nat → Int} {n a b : Nat} (hn : a + b ≤ n) (h : ∀ s, f (a + s) = g s) : (((List.range n).map f).drop a).take b = (List.range b).map g := by
  rw [← List.map_drop, ← List.map_take]
  refine List.ext_getElem? fun s => ?_
  rw [List.getElem?_map, List.getElem?_map]
  by_cases hs : s < b
  · rw [List.getElem?_take_of_lt hs, List.getElem?_drop, List.getElem?_range (by omega), List.getElem?_range hs]
    exact congrArg some (h s)
  · rw [List.getElem?_eq_none_iff.mpr (by rw [List.length_take]; omega), List.getElem?_eq_none_iff.mpr (by rw [List.length_range]; omega)]
    rfl
section
variable {r : RuleV} {l mi rr : List Int} {st : Int} {W : List Int} {n inn : Nat} {bg : Int}
theorem turn_cuts (hw : 1 ≤ r.width) (hi : inn = oInn r mi) (hn : n = l.length + inn + rr.length) (hb : bg = oLow r st - l.length) (hW : W = r.turn (wordC l mi rr st (bg + r.first) (n + r.width - 1))) :
    W.length = n ∧ cutD (W.map D.int) none (some (((l.map D.int).length : Nat) : Int)) = (oL r l mi rr st).map .int ∧
    cutD (W.map D.int) (some (((l.map D.int).length : Nat) : Int)) (some ((((l.map D.int).length : Nat) : Int) + (inn : Nat))) = (oM r l mi rr st).map .int ∧
    cutD (W.map D.int) (some ((((l.map D.int).length : Nat) : Int) + (inn : Nat))) none = (oR r l mi rr st).map .int := by
  rw [turn_word hw] at hW
  have lW : (W.map D.int).length = n := by rw [hW, List.length_map, List.length_map, List.length_range]
  have lW' : W.length = n := by rw [← lW, List.length_map]
  have e : ∀ a b : Nat, ((a : Int) + (b : Nat)) = ((a + b : Nat) : Int) := fun a b => by omega
  refine ⟨lW', ?_, ?_, ?_⟩
  · rw [cutD_hi (by rw [lW, List.length_map]; omega), List.length_map, ← List.map_take, hW]
    refine congrArg (List.map D.int) ?_
    have := rng_mid (f := fun i => turnC r (celAt l mi rr st) (bg + (i : Nat))) (g := fun s => turnC r (celAt l mi rr st) (oLow r st - l.length + (s : Nat))) (n := n) (a := 0) (b := l.length) (by omega) fun s => by
      show turnC _ _ (bg + ((0 + s : Nat) : Int)) = _
      rw [Nat.zero_add, hb]
    exact this
  · rw [List.length_map, e, cutD_mid (by omega) (by rw [lW]; omega), Nat.add_sub_cancel_left, ← List.map_drop, ← List.map_take, hW, hi]
    refine congrArg (List.map D.int) (rng_mid (f := fun i => turnC r (celAt l mi rr st) (bg + (i : Nat))) (g := fun s => turnC r (celAt l mi rr st) (oLow r st + (s : Nat))) (by omega) fun s => ?_)
    show turnC _ _ (bg + ((l.length + s : Nat) : Int)) = turnC _ _ _
    rw [show bg + ((l.length + s : Nat) : Int) = oLow r st + (s : Nat) by omega]
  · rw [List.length_map, e, cutD_lo (by rw [lW]; omega), ← List.map_drop, hW]
    refine congrArg (List.map D.int) ?_
    have := rng_mid (f := fun i => turnC r (celAt l mi rr st) (bg + (i : Nat))) (g := fun s => turnC r (celAt l mi rr st) (oLow r st + (oInn r mi : Nat) + (s : Nat))) (n := n) (a := l.length + inn) (b := rr.length) (by omega) fun s => by
      show turnC _ _ (bg + ((l.length + inn + s : Nat) : Int)) = turnC _ _ _
      rw [show bg + ((l.length + inn + s : Nat) : Int) = oLow r st + (oInn r mi : Nat) + (s : Nat) by omega]
    rw [List.take_of_length_le (by rw [List.length_drop, List.length_map, List.length_range]; omega)] at this
    exact this
end
/-- told rows, turned over and over -/
structure Tq (r : RuleV) (v : RowV) (i : Nat) (l mi rr : List Int) (st : Int) : Prop where
  hl : l ≠ []
  hr : rr ≠ []
  sl : Signs r.many l
  si : Signs r.many mi
  sr : Signs r.many rr
  zl : l.length ≤ 3
  zr : rr.length ≤ 3
  zm : mi.length ≤ 11 + 3 * i
  zs : -6 - 8 * (i : Int) ≤ st ∧ st ≤ 6 + 8 * (i : Int)
  it : iterV r i v = some (rowV r.many l mi rr st)
theorem Tq.ok {r : RuleV} {v : RowV} {i : Nat} {l mi rr : List Int} {st : Int} (q : Tq r v i l mi rr st) (hi : i ≤ 20) : (rowV r.many l mi rr st).ok = true := by
  obtain ⟨hl, hr, sl, si, sr, zl, zr, zm, zs, it⟩ := q
  exact rowV_ok (by omega) (by omega) (by omega) (by omega)
theorem Tq.next {r : RuleV} {v : RowV} {i : Nat} {l mi rr : List Int} {st : Int} (g : GR r) (hw : r.width ≤ 4) (hf : -3 ≤ r.first ∧ r.first ≤ 3) (q : Tq r v i l mi rr st) (hi : i ≤ 12) : Tq r v (i + 1) (oL r l mi rr st) (oM r l mi rr st) (oR r l mi rr st) (oLow r st) := by
  obtain ⟨hl, hr, sl, si, sr, zl, zr, zm, zs, it⟩ := q
  have w1 := g.hw.1
  obtain ⟨t1, t2, t3⟩ := o_signs (st := st) g hl hr sl si sr
  have e1 := oL_len (r := r) (l := l) (mi := mi) (rr := rr) (st := st)
  have e2 := oM_len (r := r) (l := l) (mi := mi) (rr := rr) (st := st)
  have e3 := oR_len (r := r) (l := l) (mi := mi) (rr := rr) (st := st)
  have e4 : oInn r mi = mi.length + r.width - 1 := rfl
  have e5 : oLow r st = st - r.first - (r.width : Nat) + 1 := rfl
  refine ⟨oL_ne hl, oR_ne hr, t1, t2, t3, by omega, by omega, by omega, by omega, ?_⟩
  rw [← onceV_ext hl hr w1]
  refine iterV_succ it ?_
  rw [onceV_ext hl hr w1]
  exact rowV_ok (by omega) (by omega) (by omega) (by omega)
theorem Tq.gv {r : RuleV} {v : RowV} {i : Nat} {l mi rr : List Int} {st : Int} (g : GR r) (q : Tq r v i l mi rr st) (hi : i ≤ 20) : GV (rowV r.many l mi rr st) := GV.of g.hm q.hl q.hr q.sl q.si q.sr (q.ok hi)
theorem iterV_one {r : RuleV} {v : RowV} (ok : (onceV r v).ok = true) : iterV r 1 v = some (onceV r v) := iterV_succ rfl ok
theorem iterV_one_no {r : RuleV} {v : RowV} (ok : (onceV r v).ok = false) : iterV r 1 v = none := iterV_fail rfl ok
/-- a row turned once, told by lists -/
theorem once_told {r : RuleV} {l mi rr : List Int} {st : Int} (g : GR r) (hl : l ≠ []) (hr : rr ≠ []) : onceV r (rowV r.many l mi rr st) = rowV r.many (oL r l mi rr st) (oM r l mi rr st) (oR r l mi rr st) (oLow r st) := onceV_ext hl hr g.hw.1
end PD
set_option Elab.async false
set_option linter.all false
set_option maxRecDepth 100000
set_option maxHeartbeats 4000000
/-! PD43: [elt for t1 in it1 for t2 in it2]. -/
namespace PD
open PySem PySem.Spec L2
section
variable {X : Cx} {f : Fm} {W : WX} {σ : L2.St} {H : Hp} {F : Hp} {env : Ev} {μ : Mu}
theorem Rel.unguard {D : Addr} {o : HO} (q : Rel (guardF f D o) env μ σ F H) (nt : ∀ ps, o ≠ .tbl ps) (n0 : f.F0 D = none) (nb : f.B D = none) : Rel f env μ σ F H :=
  { q.toFit.unguard nt n0 nb with
    len := q.len
    dj := q.dj
    sl := fun i sv h => by
      cases sv with
      | val d => exact q.sl i _ h
      | own k =>
        obtain ⟨a, h1, h2, h3, h4, h5⟩ := q.sl i _ h
        have e : a ≠ D := fun e => by
          have h' : upd f.B D o a = none := h3
          rw [e, upd_same] at h'
          cases h'
        exact ⟨a, h1, h2, (upd_ne e).symm.trans h3, h4, h5⟩ }
theorem Rel.noOwnAt {D : Addr} {o : HO} (q : Rel (guardF f D o) env μ σ F H) (i : Nat) (k' : Cont) (h : env[i]? = some (some (.own k'))) : σ[i]? ≠ some (some (.ref D)) := fun z => by
  obtain ⟨a, h1, h2, h3, h4, h5⟩ := q.sl i _ h
  rw [h1] at z
  cases z
  have h' : upd f.B D o D = none := h3
  rw [upd_same] at h'
  cases h'
def LiE (f : Fm) (w : WI) : TI := fun σ H R => ∃ B, Li ⟨f.c, B, f.F0⟩ (fun _ _ _ _ => False) w σ H R
theorem pi_any {w : WI} {tg e : Expr} (h : ∀ B, PXI X ⟨f.c, B, f.F0⟩ (fun _ _ _ _ => False) tg e w) : PI X tg e (LiE f w) := ⟨fun pins s σ H R I ⟨B, q⟩ => (h B).run pins s σ H R I q⟩
def wLcL2 (wg : WG) (wi1 : WI) (wg1 : WG) (we : WE) (vs vs1 : List Nat) (Q : List D → Mu → Prop) (env : Ev) : List D → List D → Mu → Prop
  | [], acc, μ => Q acc μ
  | d :: l, acc, μ => wg d (wipeE env vs) fun env' => wi1 env' μ (fun l1 μ1 => noOwn env' vs1 = true ∧ wLcL wg1 wYes we vs1 (fun acc' μ2 => wLcL2 wg wi1 wg1 we vs vs1 Q env l acc' μ2) env' l1 acc μ1) noX
def wLc2 (wi : WI) (wg : WG) (wi1 : WI) (wg1 : WG) (we : WE) (vs vs1 : List Nat) : WE := fun env μ Q E => wi env μ (fun l μ1 => noOwn env vs = true ∧ wLcL2 wg wi1 wg1 we vs vs1 (fun acc μ2 => Q (.fresh (.lst acc)) μ2) env l [] μ1) E
theorem lc2_ok {wi wi1 : WI} {wg wg1 : WG} {gs gs1 vs vs1 : List Nat} {we : WE} (hgs : ∀ i ∈ gs, i ∈ vs) (hgs1 : ∀ i ∈ gs1, i ∈ vs1) (σ : L2.St) (H : Hp) (Q : VK) (h : Lf f W (wLc2 wi wg wi1 wg1 we vs vs1) σ H Q) : tLc2 (Li f W wi) (LgE f wg gs) (LtE f wYes) (LiE f wi1) (LgE f wg1 gs1) (LtE f wYes) (LfE f we) vs vs1 σ H Q := by
  obtain ⟨env, μ, F, Qp, Ep, rel, hw, k, kx⟩ := h
  refine ⟨env, μ, F, _, Ep, rel, hw, fun l μ1 F1 H1 J rel1 e1 sv q1 => ?_, kx⟩
  obtain ⟨no, q1⟩ := q1
  intro A hA
  have nbA : f.B A = none := rel1.bt A hA
  have nfA : F1 A = none := rel1.bnone hA
  have n0A : f.F0 A = none := by
    cases h0 : f.F0 A with
    | none => rfl
    | some u =>
      rw [rel1.f0 A u h0] at nfA
      cases nfA
  have noA : ∀ (i : Nat) (k' : Cont), env[i]? = some (some (.own k')) → σ[i]? ≠ some (some (.ref A)) := rel1.notOwn hA
  have soft : ∀ xs : List V, (∀ ps, HO.lst xs ≠ .tbl ps) ∧ ∀ φ, HO.lst xs ≠ .ext φ := fun xs => ⟨(fun ps z => by cases z), (fun φ z => by cases z)⟩
  refine ⟨fun i m H => m = l.length - i ∧ i ≤ l.length ∧ ∃ μ F xs acc, Rel f env μ σ F H ∧ Same F1 F ∧ H A = some (.lst xs) ∧ Reps f.c F xs acc ∧ F A = none ∧ μ A = none ∧ wLcL2 wg wi1 wg1 we vs vs1 (fun acc μ2 => Qp (.fresh (.lst acc)) μ2) env (l.drop i) acc μ,
    ⟨l.length, by simp, Nat.zero_le _, μ1, F1, [], [], rel1.laid hA (soft []).1, Same.refl _, upd_same, .nil, nfA, rel1.mnone hA, q1⟩, ?_⟩
  rintro i m H2 ⟨rfl, hi, μ2, F2, xs, acc, rel2, s2, hA2, rs2, nf2, nm2, q2⟩
  have g2 := rel2.guard hA2 (soft xs).1 nf2 nm2 noA
  obtain ⟨go, stop⟩ := sv (guardF f A (.lst xs)) env μ2 σ F2 H2 rfl g2 s2
  by_cases hlt : i < l.length
  · obtain ⟨go1, go2⟩ := go i hlt
    refine .inr ⟨go1, fun H' => l.length - (i + 1) = l.length - (i + 1) ∧ i + 1 ≤ l.length ∧ ∃ μ F xs acc, Rel f env μ σ F H' ∧ Same F1 F ∧ H' A = some (.lst xs) ∧ Reps f.c F xs acc ∧ F A = none ∧ μ A = none ∧ wLcL2 wg wi1 wg1 we vs vs1 (fun acc μ2 => Qp (.fresh (.lst acc)) μ2) env (l.drop (i + 1)) acc μ,
      fun H' hN => ⟨l.length - (i + 1), by omega, hN⟩, fun x H3 hy => ?_⟩
    obtain ⟨F3, d, hd, rel3, s3, sH, rd⟩ := go2 x H3 hy
    have ed : l.drop i = d :: l.drop (i + 1) := by
      rw [List.drop_eq_getElem_cons hlt]
      rw [List.getElem?_eq_getElem hlt] at hd
      rw [Option.some.inj hd]
    rw [ed] at q2
    refine ⟨upd f.B A (.lst xs), wipeE env vs, μ2, F3, d, _, rel3.wiped vs, rd, q2, fun env4 σ4 rel4 hl4 ag4 q4 => ⟨?_, ?_⟩⟩
    · exact (wipe_same hl4 fun j hj => (ag4 j (fun z => hj (hgs j z))).1).trans (wipe_wipe σ vs)
    have ag : ∀ j, j ∉ vs → σ4[j]? = σ[j]? ∧ env4[j]? = env[j]? := fun j hj => by
      obtain ⟨a1, a2⟩ := ag4 j (fun z => hj (hgs j z))
      exact ⟨a1.trans (wipe_outσ hj), a2.trans (wipeE_out hj)⟩
    have noA4 := Rel.noOwnAt (f := f) rel4
    refine ⟨upd f.B A (.lst xs), env4, μ2, F3, fun b μ' => b = true ∧ μ' = μ2, noX, rel4, ⟨rfl, rfl⟩, fun b μ5 F5 H5 rel5 s5 q5 => ?_, fun x μ' cls d F' H' _ _ _ z => z⟩
    obtain ⟨rfl, rfl⟩ := q5
    rw [if_pos rfl]
    refine ⟨upd f.B A (.lst xs), env4, μ5, F5, _, _, rel5, q4, fun l1 μ6 F6 H6 J1 rel6 s6 sv1 q6 => ?_, fun x μ' cls d F' H' _ _ _ z => z⟩
    obtain ⟨no1, q6⟩ := q6
    obtain ⟨w1, w2, w3⟩ := rel6.toFit.watched (soft xs).1 n0A
    refine ⟨fun j m H => m = l1.length - j ∧ j ≤ l1.length ∧ ∃ μ F xs acc, Rel f env4 μ σ4 F H ∧ Same F6 F ∧ H A = some (.lst xs) ∧ Reps f.c F xs acc ∧ F A = none ∧ μ A = none ∧ wLcL wg1 wYes we vs1 (fun acc' μ2 => wLcL2 wg wi1 wg1 we vs vs1 (fun acc μ2 => Qp (.fresh (.lst acc)) μ2) env (l.drop (i + 1)) acc' μ2) env4 (l1.drop j) acc μ,
      ⟨l1.length, by simp, Nat.zero_le _, μ6, F6, xs, acc, Rel.unguard rel6 (soft xs).1 n0A nbA, Same.refl _, w1, Reps.mono ((s3.trans s5).trans s6) _ _ rs2, w2, w3, q6⟩, ?_⟩
    rintro j m H7 ⟨rfl, hj, μ7, F7, xs7, acc7, rel7, s7, hA7, rs7, nf7, nm7, q7⟩
    have g7 := rel7.guard hA7 (soft xs7).1 nf7 nm7 noA4
    obtain ⟨goj, stopj⟩ := sv1 (guardF f A (.lst xs7)) env4 μ7 σ4 F7 H7 rfl g7 s7
    by_cases hltj : j < l1.length
    · obtain ⟨gj1, gj2⟩ := goj j hltj
      refine .inr ⟨gj1, fun H' => l1.length - (j + 1) = l1.length - (j + 1) ∧ j + 1 ≤ l1.length ∧ ∃ μ F xs acc, Rel f env4 μ σ4 F H' ∧ Same F6 F ∧ H' A = some (.lst xs) ∧ Reps f.c F xs acc ∧ F A = none ∧ μ A = none ∧ wLcL wg1 wYes we vs1 (fun acc' μ2 => wLcL2 wg wi1 wg1 we vs vs1 (fun acc μ2 => Qp (.fresh (.lst acc)) μ2) env (l.drop (i + 1)) acc' μ2) env4 (l1.drop (j + 1)) acc μ,
        fun H' hN => ⟨l1.length - (j + 1), by omega, hN⟩, fun x1 H8 hy1 => ?_⟩
      obtain ⟨F8, d1, hd1, rel8, s8, sH8, rd1⟩ := gj2 x1 H8 hy1
      have ed1 : l1.drop j = d1 :: l1.drop (j + 1) := by
        rw [List.drop_eq_getElem_cons hltj]
        rw [List.getElem?_eq_getElem hltj] at hd1
        rw [Option.some.inj hd1]
      rw [ed1] at q7
      refine ⟨upd f.B A (.lst xs7), wipeE env4 vs1, μ7, F8, d1, _, rel8.wiped vs1, rd1, q7, fun env9 σ9 rel9 hl9 ag9 q9 => ⟨?_, ?_⟩⟩
      · exact (wipe_same hl9 fun j hj => (ag9 j (fun z => hj (hgs1 j z))).1).trans (wipe_wipe σ4 vs1)
      have agj : ∀ j, j ∉ vs1 → σ9[j]? = σ4[j]? ∧ env9[j]? = env4[j]? := fun j hj => by
        obtain ⟨a1, a2⟩ := ag9 j (fun z => hj (hgs1 j z))
        exact ⟨a1.trans (wipe_outσ hj), a2.trans (wipeE_out hj)⟩
      refine ⟨upd f.B A (.lst xs7), env9, μ7, F8, _, _, rel9, q9, fun b μ10 F10 H10 rel10 s10 q10 => ?_, fun x μ' cls d F' H' _ _ _ z => z⟩
      cases b with
      | true =>
        refine ⟨upd f.B A (.lst xs7), env9, μ10, F10, _, _, rel10, q10, fun r μ11 v11 F11 H11 rel11 s11 rr11 q11 => ?_, fun x μ' cls d F' H' _ _ _ z => z⟩
        obtain ⟨F12, rel12, s12, rz12⟩ := settle rel11 rr11
        obtain ⟨sy, q12⟩ := still_ok rz12 q11
        obtain ⟨u1, u2, u3⟩ := rel12.toFit.watched (soft xs7).1 n0A
        have sA : Same F7 F12 := ((s8.trans s10).trans s11).trans s12
        have rel13 : Rel f env4 μ11 σ4 F12 H11 := rel7.back rel12 sA (soft xs7).1 n0A nbA no1 agj
        have rs13 : Reps f.c F12 xs7 acc7 := Reps.mono sA _ _ rs7
        exact ⟨xs7, u1, by rw [rs7.len]; exact q12.1, rfl, hltj, μ11, F12, xs7 ++ [v11], acc7 ++ [r.d], rel13.touch u1 (soft xs7) u2 nbA u3 noA4, s7.trans sA, upd_same, rs13.app (.one sy), u2, u3, q12.2⟩
      | false =>
        obtain ⟨u1, u2, u3⟩ := rel10.toFit.watched (soft xs7).1 n0A
        have sA : Same F7 F10 := s8.trans s10
        exact ⟨rfl, hltj, μ10, F10, xs7, acc7, rel7.back rel10 sA (soft xs7).1 n0A nbA no1 agj, s7.trans sA, u1, Reps.mono sA _ _ rs7, u2, u3, q10⟩
    · have ej : j = l1.length := by omega
      subst ej
      refine .inl ⟨stopj, ?_⟩
      rw [List.drop_length] at q7
      have sA : Same F2 F7 := ((s3.trans s5).trans s6).trans s7
      exact ⟨rfl, hlt, μ7, F7, xs7, acc7, rel2.back g7 sA (soft xs7).1 n0A nbA no ag, s2.trans sA, hA7, rs7, nf7, nm7, q7⟩
  · have ei : i = l.length := by omega
    subst ei
    refine .inl ⟨stop, ?_⟩
    rw [List.drop_length] at q2
    exact k (.fresh (.lst acc)) μ2 (.ref A) F2 H2 rel2 (e1.trans s2) ⟨A, rfl, nf2, nbA, nm2, noA, xs, hA2, rs2⟩ q2
theorem px_lc2 {elt tg iter tg1 iter1 : Expr} {pos : Pos} {scope : Scope} {own : List (Str × Nat)} {vs1 : List Nat} {wi wi1 : WI} {wg wg1 : WG} {gs gs1 : List Nat} {we : WE} (hc : X.calm = true) (hN : X.N.Nodup) (hi : PXI X f W tg iter wi) (ok : BlkOk X.N X.env.scope scope own) (hgs : ∀ i ∈ gs, i ∈ own.map (·.2)) (hgs1 : ∀ i ∈ gs1, i ∈ vs1) (hv : ∀ i ∈ vs1, i ∈ own.map (·.2))
    (hg : ∀ (s : Shared) (H : Hp) (C : Addr) (cl : List (Str × Addr)) (fp : List Addr) (B : Hp), PXG (X.blk s H scope (compEnvC scope cl C X.env) fp) ⟨f.c, B, f.F0⟩ tg wg gs)
    (hi1 : ∀ (s : Shared) (H : Hp) (C : Addr) (cl : List (Str × Addr)) (fp : List Addr) (B : Hp), PXI (X.blk s H scope (compEnvC scope cl C X.env) fp) ⟨f.c, B, f.F0⟩ (fun _ _ _ _ => False) tg1 iter1 wi1)
    (hg1 : ∀ (s : Shared) (H : Hp) (C : Addr) (cl : List (Str × Addr)) (fp : List Addr) (B : Hp), PXG (X.blk s H scope (compEnvC scope cl C X.env) fp) ⟨f.c, B, f.F0⟩ tg1 wg1 gs1)
    (he : ∀ (s : Shared) (H : Hp) (C : Addr) (cl : List (Str × Addr)) (fp : List Addr) (B : Hp), PX (X.blk s H scope (compEnvC scope cl C X.env) fp) ⟨f.c, B, f.F0⟩ (fun _ _ _ _ => False) elt we) (hs : ∀ x, foldedSetIterable iter X.env x = pure x := by intro _; rfl) (hs1 : ∀ env x, foldedSetIterable iter1 env x = pure x := by intro _ _; rfl) :
    PX X f W (.ListComp elt [⟨tg, iter, [], 0⟩, ⟨tg1, iter1, [], 0⟩] scope pos) (wLc2 wi wg wi1 wg1 we (own.map (·.2)) vs1) :=
  pe_imp (pe_lc2 hc hN hi ok hv (fun s H C cl fp => pg_any (hg s H C cl fp)) (fun s H C cl fp => px_tsNil) (fun s H C cl fp => pi_any (hi1 s H C cl fp)) (fun s H C cl fp => pg_any (hg1 s H C cl fp)) (fun s H C cl fp => px_tsNil) (fun s H C cl fp => pe_any (he s H C cl fp)) hs hs1) fun σ H Q h => lc2_ok hgs hgs1 σ H Q h
theorem px_setLc2 {i : Nat} {y : Str} {py spos pos : Pos} {elt tg iter tg1 iter1 : Expr} {scope : Scope} {own : List (Str × Nat)} {vs1 : List Nat} {wi wi1 : WI} {wg wg1 : WG} {gs gs1 : List Nat} {we : WE} (hc : X.calm = true) (hN : X.N.Nodup) (hy : X.N[i]? = some y) (hyl : X.env.scope.names.lookup y = some .local)
    (hsw : swapsWith (.ListComp elt [⟨tg, iter, [], 0⟩, ⟨tg1, iter1, [], 0⟩] scope pos) (some (.Name y py)) spos.line X.env = pure true) (hi : PXI X f W tg iter wi) (ok : BlkOk X.N X.env.scope scope own) (hgs : ∀ i ∈ gs, i ∈ own.map (·.2)) (hgs1 : ∀ i ∈ gs1, i ∈ vs1) (hv : ∀ i ∈ vs1, i ∈ own.map (·.2))
    (hg : ∀ (s : Shared) (H : Hp) (C : Addr) (cl : List (Str × Addr)) (fp : List Addr) (B : Hp), PXG (X.blk s H scope (compEnvC scope cl C X.env) fp) ⟨f.c, B, f.F0⟩ tg wg gs)
    (hi1 : ∀ (s : Shared) (H : Hp) (C : Addr) (cl : List (Str × Addr)) (fp : List Addr) (B : Hp), PXI (X.blk s H scope (compEnvC scope cl C X.env) fp) ⟨f.c, B, f.F0⟩ (fun _ _ _ _ => False) tg1 iter1 wi1)
    (hg1 : ∀ (s : Shared) (H : Hp) (C : Addr) (cl : List (Str × Addr)) (fp : List Addr) (B : Hp), PXG (X.blk s H scope (compEnvC scope cl C X.env) fp) ⟨f.c, B, f.F0⟩ tg1 wg1 gs1)
    (he : ∀ (s : Shared) (H : Hp) (C : Addr) (cl : List (Str × Addr)) (fp : List Addr) (B : Hp), PX (X.blk s H scope (compEnvC scope cl C X.env) fp) ⟨f.c, B, f.F0⟩ (fun _ _ _ _ => False) elt we) (hs : ∀ x, foldedSetIterable iter X.env x = pure x := by intro _; rfl) (hs1 : ∀ env x, foldedSetIterable iter1 env x = pure x := by intro _ _; rfl) :
    PXS X f W (.Assign [.Name y py] (.ListComp elt [⟨tg, iter, [], 0⟩, ⟨tg1, iter1, [], 0⟩] scope pos) spos) (wAsg i (wLc2 wi wg wi1 wg1 we (own.map (·.2)) vs1)) :=
  ps_imp (ps_setLc2 hc hN hy hyl hsw hi ok hv (fun s H C cl fp => pg_any (hg s H C cl fp)) (fun s H C cl fp => px_tsNil) (fun s H C cl fp => pi_any (hi1 s H C cl fp)) (fun s H C cl fp => pg_any (hg1 s H C cl fp)) (fun s H C cl fp => px_tsNil) (fun s H C cl fp => pe_any (he s H C cl fp)) hs hs1) fun D σ H h => lc2_ok hgs hgs1 σ H _ (asg_ok h)
end
end PD
set_option Elab.async false
set_option linter.all false
set_option maxRecDepth 100000
set_option maxHeartbeats 4000000
/-! PD44: two fors, mapped; rules trimmed. -/
namespace PD
open PySem PySem.Spec L2
theorem lcl2_map {wg wg1 : WG} {wi1 : WI} {we : WE} {vs vs1 : List Nat} {env : Ev} {μ : Mu} {Q : List D → Mu → Prop} (g : D → List D) : ∀ (l acc : List D),
    (∀ d ∈ l, ∀ (acc : List D) (P : List D → Mu → Prop), acc.length + (g d).length ≤ sizeLine → P (acc ++ g d) μ → wg d (wipeE env vs) fun env' => wi1 env' μ (fun l1 μ1 => noOwn env' vs1 = true ∧ wLcL wg1 wYes we vs1 P env' l1 acc μ1) noX) →
    acc.length + (l.flatMap g).length ≤ sizeLine → Q (acc ++ l.flatMap g) μ → wLcL2 wg wi1 wg1 we vs vs1 Q env l acc μ
  | [], acc, _, _, q => by
    rw [List.flatMap_nil, List.append_nil] at q
    exact q
  | d :: l, acc, h, hz, q => by
    rw [List.flatMap_cons, List.length_append] at hz
    refine h d (List.mem_cons_self ..) acc _ (by omega) ?_
    refine lcl2_map g l (acc ++ g d) (fun d' hd' => h d' (List.mem_cons_of_mem _ hd')) (by rw [List.length_append]; omega) ?_
    rw [List.flatMap_cons] at q
    rw [List.append_assoc]
    exact q
/-! ### rules that turn alike -/
def SameT (r r' : RuleV) : Prop := r'.many = r.many ∧ ∀ c : Int → Int, (∀ p, 0 ≤ c p ∧ c p < r.many) → ∀ p, turnC r' c p = turnC r c p
theorem SameT.refl (r : RuleV) : SameT r r := ⟨rfl, fun _ _ _ => rfl⟩
theorem SameT.trans {r r' r'' : RuleV} (h : SameT r r') (h' : SameT r' r'') : SameT r r'' := ⟨h'.1.trans h.1, fun c hc p => (h'.2 c (fun p => by rw [h.1]; exact hc p) p).trans (h.2 c hc p)⟩
theorem nums_from (m : Int) : ∀ (w : List Int) (a : Int), w.foldl (fun a s => a * m + s) a = a * m ^ w.length + nums w m
  | [], a => by
    show a = a * m ^ 0 + 0
    rw [Int.pow_zero]
    omega
  | s :: w, a => by
    show w.foldl (fun a s => a * m + s) (a * m + s) = a * m ^ (w.length + 1) + w.foldl (fun a s => a * m + s) (0 * m + s)
    rw [nums_from m w (a * m + s), nums_from m w (0 * m + s), Int.zero_mul, Int.zero_add, Int.add_mul, Int.pow_succ, Int.mul_assoc, Int.mul_comm m (m ^ w.length), Int.add_assoc]
theorem nums_cons (s : Int) (w : List Int) (m : Int) : nums (s :: w) m = s * m ^ w.length + nums w m := by
  have := nums_from m w (0 * m + s)
  rw [Int.zero_mul, Int.zero_add] at this
  show w.foldl (fun a s => a * m + s) (0 * m + s) = _
  rw [Int.zero_mul, Int.zero_add]
  exact this
section
variable {r : RuleV} {t : List Int}
theorem getD_mem {l : List Int} {i : Nat} (h : i < l.length) : l.getD i 0 ∈ l := by
  rw [List.getD_eq_getElem?_getD, List.getElem?_eq_getElem h]
  exact List.getElem_mem h
/-- the last place doesn't matter -/
theorem trimR (g : GR r) {k : Nat} (hk : r.width = k + 1) (h1 : 1 ≤ k) (ht : t.length = r.many.toNat ^ k) (hat : ∀ i, i < t.length → t.getD i 0 = r.table.getD (i * r.many.toNat) 0) (same : ∀ i, i < r.table.length → r.table.getD i 0 = r.table.getD (i - i % r.many.toNat) 0) :
    GR ⟨r.many, r.first, k, t⟩ ∧ SameT r ⟨r.many, r.first, k, t⟩ := by
  obtain ⟨hm, hs, hw, hl, hz, hf⟩ := g
  rw [hk, Nat.pow_succ] at hl
  have mp : 0 < r.many.toNat := by omega
  have tl : t.length * r.many.toNat = r.table.length := by rw [ht, hl]
  have le : t.length ≤ r.table.length := by
    rw [← tl]
    exact Nat.le_mul_of_pos_right _ mp
  refine ⟨⟨hm, fun s hs' => ?_, by show 1 ≤ k ∧ k ≤ 10; omega, ht, by show t.length ≤ 1024; omega, by show -40 ≤ r.first ∧ r.first + (k : Nat) ≤ 41; omega⟩, rfl, fun c hc p => ?_⟩
  · obtain ⟨i, hi, e⟩ := List.mem_iff_getElem.mp hs'
    replace hi : i < t.length := hi
    replace e : t[i] = s := e
    have e2 := hat i hi
    rw [List.getD_eq_getElem?_getD, List.getElem?_eq_getElem hi] at e2
    have e3 : s = r.table.getD (i * r.many.toNat) 0 := by rw [← e2]; exact e.symm
    rw [e3]
    refine hs _ (getD_mem ?_)
    rw [← tl]
    exact Nat.mul_lt_mul_of_pos_right hi mp
  · show tAt t r.many ((List.range k).map fun s => c (p + r.first + (s : Nat))) = tAt r.table r.many ((List.range r.width).map fun s => c (p + r.first + (s : Nat)))
    rw [hk, List.range_succ, List.map_append, List.map_cons, List.map_nil]
    obtain ⟨w, hw'⟩ : ∃ w, w = (List.range k).map fun s : Nat => c (p + r.first + (s : Nat)) := ⟨_, rfl⟩
    obtain ⟨s, hs'⟩ : ∃ s, s = c (p + r.first + (k : Nat)) := ⟨_, rfl⟩
    rw [← hw', ← hs']
    have sw : Signs r.many w := fun x hx => by
      rw [hw'] at hx
      obtain ⟨q, _, rfl⟩ := List.mem_map.mp hx
      exact hc _
    have lw : w.length = k := by rw [hw', List.length_map, List.length_range]
    have ss : 0 ≤ s ∧ s < r.many := by rw [hs']; exact hc _
    obtain ⟨n0, n1⟩ := tab_at (by omega) ht lw sw
    unfold tAt
    rw [nums_snoc]
    obtain ⟨n, hn⟩ : ∃ n : Nat, nums w r.many = n := ⟨(nums w r.many).toNat, by omega⟩
    obtain ⟨M, hM⟩ : ∃ M : Nat, r.many = M := ⟨r.many.toNat, by omega⟩
    obtain ⟨s', hs''⟩ : ∃ s' : Nat, s = s' := ⟨s.toNat, by omega⟩
    rw [hn] at n0 n1 ⊢
    rw [hM, hs''] at ss
    rw [hM] at hat same tl mp
    rw [Int.toNat_natCast] at hat same tl mp
    rw [hM, hs'', show ((n : Int) * (M : Nat) + (s' : Nat)) = ((n * M + s' : Nat) : Int) by rw [Int.natCast_add, Int.natCast_mul], Int.toNat_natCast, Int.toNat_natCast]
    have sl : s' < M := by omega
    have nl : n < t.length := by omega
    have il : n * M + s' < r.table.length := by
      rw [← tl]
      have : (n + 1) * M ≤ t.length * M := Nat.mul_le_mul_right _ nl
      rw [Nat.add_mul] at this
      omega
    rw [same _ il, hat n nl]
    congr 1
    have : (n * M + s') % M = s' := by rw [Nat.mul_comm, Nat.mul_add_mod, Nat.mod_eq_of_lt sl]
    omega
/-- the first place doesn't matter -/
theorem trimL (g : GR r) {k : Nat} (hk : r.width = k + 1) (h1 : 1 ≤ k) (ht : t.length = r.many.toNat ^ k) (hat : ∀ i, i < t.length → t.getD i 0 = r.table.getD i 0) (same : ∀ i, i < r.table.length → r.table.getD i 0 = r.table.getD (i % t.length) 0) :
    GR ⟨r.many, r.first + 1, k, t⟩ ∧ SameT r ⟨r.many, r.first + 1, k, t⟩ := by
  obtain ⟨hm, hs, hw, hl, hz, hf⟩ := g
  rw [hk, Nat.pow_succ] at hl
  have mp : 0 < r.many.toNat := by omega
  have tl : t.length * r.many.toNat = r.table.length := by rw [ht, hl]
  have le : t.length ≤ r.table.length := by
    rw [← tl]
    exact Nat.le_mul_of_pos_right _ mp
  refine ⟨⟨hm, fun s hs' => ?_, by show 1 ≤ k ∧ k ≤ 10; omega, ht, by show t.length ≤ 1024; omega, by show -40 ≤ r.first + 1 ∧ r.first + 1 + (k : Nat) ≤ 41; omega⟩, rfl, fun c hc p => ?_⟩
  · obtain ⟨i, hi, e⟩ := List.mem_iff_getElem.mp hs'
    replace hi : i < t.length := hi
    replace e : t[i] = s := e
    have e2 := hat i hi
    rw [List.getD_eq_getElem?_getD, List.getElem?_eq_getElem hi] at e2
    have e3 : s = r.table.getD i 0 := by rw [← e2]; exact e.symm
    rw [e3]
    exact hs _ (getD_mem (by omega))
  · show tAt t r.many ((List.range k).map fun s => c (p + (r.first + 1) + (s : Nat))) = tAt r.table r.many ((List.range r.width).map fun s => c (p + r.first + (s : Nat)))
    rw [hk, List.range_succ_eq_map, List.map_cons, List.map_map]
    have e0 : ((fun s : Nat => c (p + r.first + (s : Nat))) ∘ Nat.succ) = fun s : Nat => c (p + (r.first + 1) + (s : Nat)) := by
      funext s
      show c (p + r.first + ((s + 1 : Nat) : Int)) = _
      congr 1
      omega
    rw [e0]
    obtain ⟨w, hw'⟩ : ∃ w, w = (List.range k).map fun s : Nat => c (p + (r.first + 1) + (s : Nat)) := ⟨_, rfl⟩
    obtain ⟨s, hs'⟩ : ∃ s, s = c (p + r.first + ((0 : Nat) : Int)) := ⟨_, rfl⟩
    rw [← hw', ← hs']
    have sw : Signs r.many w := fun x hx => by
      rw [hw'] at hx
      obtain ⟨q, _, rfl⟩ := List.mem_map.mp hx
      exact hc _
    have lw : w.length = k := by rw [hw', List.length_map, List.length_range]
    have ss : 0 ≤ s ∧ s < r.many := by rw [hs']; exact hc _
    obtain ⟨n0, n1⟩ := tab_at (by omega) ht lw sw
    unfold tAt
    rw [nums_cons, lw]
    obtain ⟨n, hn⟩ : ∃ n : Nat, nums w r.many = n := ⟨(nums w r.many).toNat, by omega⟩
    obtain ⟨M, hM⟩ : ∃ M : Nat, r.many = M := ⟨r.many.toNat, by omega⟩
    obtain ⟨s', hs''⟩ : ∃ s' : Nat, s = s' := ⟨s.toNat, by omega⟩
    rw [hn] at n0 n1 ⊢
    rw [hM, hs''] at ss
    rw [hM] at tl mp ht
    rw [Int.toNat_natCast] at tl mp ht
    rw [hM, hs'', show ((s' : Int) * (M : Int) ^ k + (n : Nat)) = ((s' * M ^ k + n : Nat) : Int) by rw [Int.natCast_add, Int.natCast_mul, Int.natCast_pow], Int.toNat_natCast, Int.toNat_natCast]
    have sl : s' < M := by omega
    have nl : n < t.length := by omega
    rw [← ht]
    have il : s' * t.length + n < r.table.length := by
      rw [← tl, Nat.mul_comm t.length M]
      have : (s' + 1) * t.length ≤ M * t.length := Nat.mul_le_mul_right _ sl
      rw [Nat.add_mul] at this
      omega
    rw [same _ il, hat n nl]
    congr 1
    rw [Nat.mul_comm, Nat.mul_add_mod, Nat.mod_eq_of_lt nl]
/-- one sign alone: the place doesn't matter -/
theorem trimC (g : GR r) (hk : r.width = 1) (same : ∀ i, i < r.table.length → r.table.getD i 0 = r.table.getD 0 0) :
    GR ⟨r.many, 0, r.width, r.table⟩ ∧ SameT r ⟨r.many, 0, r.width, r.table⟩ := by
  obtain ⟨hm, hs, hw, hl, hz, hf⟩ := g
  refine ⟨⟨hm, hs, hw, hl, hz, by show -40 ≤ (0 : Int) ∧ (0 : Int) + (r.width : Nat) ≤ 41; omega⟩, rfl, fun c hc p => ?_⟩
  have all : ∀ q, tAt r.table r.many ((List.range r.width).map fun s => c (q + (s : Nat))) = r.table.getD 0 0 := fun q => by
    unfold tAt
    refine same _ ?_
    obtain ⟨u1, u2⟩ := tab_at (w := (List.range r.width).map fun s => c (q + (s : Nat))) (by omega) hl (by rw [List.length_map, List.length_range]) fun x hx => by
      obtain ⟨q', _, rfl⟩ := List.mem_map.mp hx
      exact hc _
    omega
  exact (all (p + 0)).trans (all (p + r.first)).symm
theorem fm_map {α β : Type} {f : α → Option β} {g : α → β} : ∀ {l : List α}, (∀ i ∈ l, f i = some (g i)) → l.filterMap f = l.map g
  | [], _ => rfl
  | a :: l, h => by
    rw [List.filterMap_cons, h a (List.mem_cons_self ..), List.map_cons, fm_map fun i hi => h i (List.mem_cons_of_mem _ hi)]
/-- each in steps -/
theorem step_getD {m j : Nat} {l : List Int} (hm : 0 < m) (hl : l.length = m * j) : (stepL l (m : Int)).length = j ∧ ∀ i, i < j → (stepL l (m : Int)).getD i 0 = l.getD (i * m) 0 := by
  rw [step_pos hm hl]
  have e : (List.range j).filterMap (fun i => l[i * m]?) = (List.range j).map fun i => l.getD (i * m) 0 := by
    refine fm_map fun i hi => ?_
    have hi := List.mem_range.mp hi
    have : i * m < l.length := by
      rw [hl, Nat.mul_comm m j]
      exact Nat.mul_lt_mul_of_pos_right hi hm
    rw [List.getElem?_eq_getElem this]
    rw [List.getD_eq_getElem?_getD, List.getElem?_eq_getElem this]
    rfl
  rw [e]
  refine ⟨by rw [List.length_map, List.length_range], fun i hi => ?_⟩
  rw [List.getD_eq_getElem?_getD, List.getElem?_map, List.getElem?_range hi]
  rfl
/-- repeated -/
theorem rep_getD {n k : Nat} {l : List Int} (hk : 0 < k) (hn : 0 < n) (hl : n ≤ l.length) (e : (List.replicate k (l.take n)).flatten = l) : ∀ i, i < l.length → l.getD i 0 = l.getD (i % n) 0 := fun i hi => by
  have ln : (l.take n).length = n := by rw [List.length_take, Nat.min_eq_left hl]
  have z := wheel_rep (w := l.take n) hk (List.length_pos_iff.mp (by omega)) (i : Int)
  rw [e] at z
  unfold wheelAt at z
  rw [ln, ← Int.natCast_emod, ← Int.natCast_emod, Int.toNat_natCast, Int.toNat_natCast, Nat.mod_eq_of_lt hi] at z
  rw [z, List.getD_eq_getElem?_getD, List.getElem?_take_of_lt (Nat.mod_lt _ hn), List.getD_eq_getElem?_getD]
end
end PD
set_option Elab.async false
set_option linter.all false
set_option maxRecDepth 100000
set_option maxHeartbeats 4000000
/-! PD45: rules behind rules, moved, still. -/
namespace PD
open PySem PySem.Spec L2
theorem flat_at {α β : Type} {f : α → List β} {m : Nat} : ∀ {l : List α} {i s : Nat} {a : α}, (∀ a ∈ l, (f a).length = m) → s < m → l[i]? = some a → (l.flatMap f)[i * m + s]? = (f a)[s]?
  | [], i, s, a, _, _, h => by simp at h
  | b :: l, 0, s, a, hm, hs, h => by
    have e : b = a := by simpa using h
    subst e
    rw [List.flatMap_cons, Nat.zero_mul, Nat.zero_add, List.getElem?_append_left (by rw [hm b (List.mem_cons_self ..)]; exact hs)]
  | b :: l, i + 1, s, a, hm, hs, h => by
    have h' : l[i]? = some a := by simpa using h
    rw [List.flatMap_cons, List.getElem?_append_right (by rw [hm b (List.mem_cons_self ..), Nat.add_mul]; omega), hm b (List.mem_cons_self ..), show (i + 1) * m + s - m = i * m + s by rw [Nat.add_mul]; omega]
    exact flat_at (fun a ha => hm a (List.mem_cons_of_mem _ ha)) hs h'
theorem allW_at {m : Nat} : ∀ {k : Nat} {w : List Int}, w.length = k → Signs (m : Int) w → (allW m k)[(nums w m).toNat]? = some w
  | 0, w, hl, _ => by
    obtain rfl := List.length_eq_zero_iff.mp hl
    rfl
  | k + 1, w, hl, hs => by
    obtain ⟨v, s, rfl⟩ : ∃ v s, w = v ++ [s] := by
      rcases List.eq_nil_or_concat w with e | ⟨v, s, e⟩
      · rw [e] at hl; cases hl
      · exact ⟨v, s, by rw [e, List.concat_eq_append]⟩
    have lv : v.length = k := by
      rw [List.length_append] at hl
      exact Nat.succ.inj hl
    have sv : Signs (m : Int) v := fun x hx => hs x (List.mem_append_left _ hx)
    have ss := hs s (List.mem_append_right _ (List.mem_singleton.mpr rfl))
    have ih := allW_at lv sv
    have n0 := (nums_lt (m := (m : Int)) (by omega) sv).1
    obtain ⟨n, hn⟩ : ∃ n : Nat, nums v m = n := ⟨(nums v m).toNat, by omega⟩
    obtain ⟨s', es⟩ : ∃ s' : Nat, s = s' := ⟨s.toNat, by omega⟩
    subst es
    rw [hn, Int.toNat_natCast] at ih
    rw [nums_snoc, hn, show ((n : Int) * (m : Nat) + (s' : Nat)) = ((n * m + s' : Nat) : Int) by rw [Int.natCast_add, Int.natCast_mul], Int.toNat_natCast]
    show ((allW m k).flatMap fun w => (List.range m).map fun s => w ++ [((s : Nat) : Int)])[n * m + s']? = _
    have sl : s' < m := by omega
    rw [flat_at (fun a _ => by rw [List.length_map, List.length_range]) sl ih, List.getElem?_map, List.getElem?_range sl]
    rfl
theorem turn_map {r : RuleV} {c : Int → Int} {q : Int} {n : Nat} : r.turn ((List.range n).map fun s => c (q + r.first + (s : Nat))) = (List.range (n + 1 - r.width)).map fun i => turnC r c (q + (i : Nat)) := by
  unfold RuleV.turn tTurn
  rw [List.length_map, List.length_range]
  refine List.map_congr_left fun i hi => ?_
  have hi := List.mem_range.mp hi
  unfold turnC
  refine congrArg (tAt r.table r.many) ?_
  refine List.ext_getElem? fun s => ?_
  by_cases hs : s < r.width
  · rw [List.getElem?_take_of_lt hs, List.getElem?_drop, List.getElem?_map, List.getElem?_range (by omega), List.getElem?_map, List.getElem?_range hs]
    show some (c (q + r.first + ((i + s : Nat) : Int))) = some (c (q + (i : Nat) + r.first + (s : Nat)))
    rw [show q + r.first + ((i + s : Nat) : Int) = q + (i : Nat) + r.first + (s : Nat) by omega]
  · rw [List.getElem?_eq_none_iff.mpr (by rw [List.length_take]; omega), List.getElem?_eq_none_iff.mpr (by rw [List.length_map, List.length_range]; omega)]
def behindT (a b : RuleV) (W : Nat) : List Int := (allW b.many.toNat W).map fun w => tAt b.table b.many (a.turn w)
theorem behind_ok {a b : RuleV} (ga : GR a) (gb : GR b) (hm : a.many = b.many) {W : Nat} (hW : W + 1 = a.width + b.width) (hz : b.many.toNat ^ W ≤ 1024) (hf : -40 ≤ a.first + b.first ∧ a.first + b.first + (W : Nat) ≤ 41) (h10 : W ≤ 10) :
    GR ⟨b.many, a.first + b.first, W, behindT a b W⟩ ∧ ∀ c : Int → Int, (∀ p, 0 ≤ c p ∧ c p < b.many) → ∀ p, turnC ⟨b.many, a.first + b.first, W, behindT a b W⟩ c p = turnC b (turnC a c) p := by
  have bm := gb.hm
  have wa := ga.hw
  have wb := gb.hw
  have eM : ((b.many.toNat : Nat) : Int) = b.many := Int.toNat_of_nonneg (by omega)
  have lt : (behindT a b W).length = b.many.toNat ^ W := by
    unfold behindT
    rw [List.length_map, allW_len]
  have tl : ∀ w : List Int, w.length = W → Signs b.many w → (a.turn w).length = b.width ∧ Signs b.many (a.turn w) := fun w lw sw => by
    refine ⟨?_, ?_⟩
    · unfold RuleV.turn
      rw [tTurn_len]
      omega
    · rw [← hm] at sw ⊢
      exact tTurn_signs (by omega) ga.hl ga.hs sw
  refine ⟨⟨bm, fun x hx => ?_, by show 1 ≤ W ∧ W ≤ 10; omega, lt, by show (behindT a b W).length ≤ 1024; rw [lt]; exact hz, hf⟩, fun c hc p => ?_⟩
  · obtain ⟨w, hw, rfl⟩ := List.mem_map.mp (show x ∈ (allW b.many.toNat W).map _ from hx)
    obtain ⟨l1, l2⟩ := allW_mem hw
    rw [eM] at l2
    obtain ⟨t1, t2⟩ := tl w l1 l2
    exact gb.hs _ (tAt_mem (by omega) gb.hl t1 t2)
  · obtain ⟨w, hw⟩ : ∃ w, w = (List.range W).map fun s : Nat => c (p + (a.first + b.first) + (s : Nat)) := ⟨_, rfl⟩
    have lw : w.length = W := by rw [hw, List.length_map, List.length_range]
    have sw : Signs b.many w := fun x hx => by
      rw [hw] at hx
      obtain ⟨q, _, rfl⟩ := List.mem_map.mp hx
      exact hc _
    have e1 : turnC ⟨b.many, a.first + b.first, W, behindT a b W⟩ c p = tAt (behindT a b W) b.many w := by
      rw [hw]
      rfl
    have e2 : tAt (behindT a b W) b.many w = tAt b.table b.many (a.turn w) := by
      have z := allW_at (m := b.many.toNat) lw (by rw [eM]; exact sw)
      rw [eM] at z
      show (behindT a b W).getD (nums w b.many).toNat 0 = _
      unfold behindT
      rw [List.getD_eq_getElem?_getD, List.getElem?_map, z]
      rfl
    have e3 : a.turn w = (List.range b.width).map fun s => turnC a c (p + b.first + (s : Nat)) := by
      have z := turn_map (r := a) (c := c) (q := p + b.first) (n := W)
      rw [show W + 1 - a.width = b.width by omega] at z
      rw [← z, hw]
      refine congrArg a.turn (List.map_congr_left fun s _ => ?_)
      rw [show p + (a.first + b.first) + ((s : Nat) : Int) = p + b.first + a.first + (s : Nat) by omega]
    rw [e1, e2, e3]
    rfl
def movedR (r : RuleV) (k : Int) : RuleV := ⟨r.many, r.first + k, r.width, r.table⟩
theorem moved_turn {r : RuleV} {k p : Int} {c : Int → Int} : turnC (movedR r k) c p = turnC r c (p + k) := by
  show tAt r.table r.many _ = tAt r.table r.many _
  refine congrArg (tAt r.table r.many) (List.map_congr_left fun s _ => ?_)
  show c (p + (r.first + k) + (s : Nat)) = c (p + k + r.first + (s : Nat))
  rw [show p + (r.first + k) + ((s : Nat) : Int) = p + k + r.first + (s : Nat) by omega]
def stillR (m : Int) : RuleV := ⟨m, 0, 1, (List.range m.toNat).map fun i => ((i : Nat) : Int)⟩
theorem still_good {m : Int} (hm : 2 ≤ m ∧ m ≤ 4) : GR (stillR m) ∧ ∀ c : Int → Int, (∀ p, 0 ≤ c p ∧ c p < m) → ∀ p, turnC (stillR m) c p = c p := by
  refine ⟨⟨hm, fun x hx => ?_, (show 1 ≤ 1 ∧ 1 ≤ 10 by decide), ?_, ?_, (show -40 ≤ (0 : Int) ∧ (0 : Int) + ((1 : Nat) : Int) ≤ 41 by decide)⟩, fun c hc p => ?_⟩
  · obtain ⟨i, hi, rfl⟩ := List.mem_map.mp hx
    have := List.mem_range.mp hi
    show 0 ≤ ((i : Nat) : Int) ∧ ((i : Nat) : Int) < m
    omega
  · show ((List.range m.toNat).map _).length = m.toNat ^ 1
    rw [List.length_map, List.length_range, Nat.pow_one]
  · show ((List.range m.toNat).map _).length ≤ 1024
    rw [List.length_map, List.length_range]
    omega
  · have hp := hc p
    show ((List.range m.toNat).map fun i => ((i : Nat) : Int)).getD (nums [c (p + 0 + ((0 : Nat) : Int))] m).toNat 0 = c p
    have e : nums [c (p + 0 + ((0 : Nat) : Int))] m = c p := by
      show 0 * m + c (p + 0 + ((0 : Nat) : Int)) = c p
      rw [Int.zero_mul, Int.zero_add, show p + 0 + ((0 : Nat) : Int) = p by omega]
    rw [e, List.getD_eq_getElem?_getD, List.getElem?_map, List.getElem?_range (by omega)]
    show (((c p).toNat : Nat) : Int) = c p
    omega
/-- rows turned by rules that turn alike -/
theorem once_same {r r' : RuleV} {m : Int} {l mi rr l' mi' rr' : List Int} {st st' : Int} (hl : l ≠ []) (hr : rr ≠ []) (hl' : l' ≠ []) (hr' : rr' ≠ []) (w1 : 1 ≤ r.width) (w2 : 1 ≤ r'.width) (h : ∀ p, turnC r (celAt l mi rr st) p = turnC r' (celAt l' mi' rr' st') p) :
    rowV m (oL r l mi rr st) (oM r l mi rr st) (oR r l mi rr st) (oLow r st) = rowV m (oL r' l' mi' rr' st') (oM r' l' mi' rr' st') (oR r' l' mi' rr' st') (oLow r' st') :=
  rowV_ext (oL_ne hl) (oR_ne hr) (oL_ne hl') (oR_ne hr') fun p => by rw [once_cel hl hr w1, once_cel hl' hr' w2, h p]
end PD
set_option Elab.async false
set_option linter.all false
set_option maxRecDepth 100000
set_option maxHeartbeats 4000000
/-! PD46: while, a turn less each. -/
namespace PD
open PySem PySem.Spec L2
theorem wh_of {wt : WT} {wb : WS} {n : En} (I : Nat → Ev → Mu → Prop)
    (step : ∀ (k : Nat) (env : Ev) (μ : Mu) (K : Ev → Mu → Prop), (∀ env' μ' j, j + 1 = k → I j env' μ' → K env' μ') → I k env μ → wt env μ (fun b μ1 => if b = true then wb { n with nx := K, ct := K, bk := n.nx } env μ1 else n.nx env μ1) n.ex) :
    ∀ (k : Nat) (env : Ev) (μ : Mu), I k env μ → wWhN wt wb n (k + 1) env μ
  | 0, env, μ, h => step 0 env μ (wWhN wt wb n 0) (fun _ _ j hj _ => absurd hj (by omega)) h
  | k + 1, env, μ, h => step (k + 1) env μ (wWhN wt wb n (k + 1)) (fun env' μ' j hj hI => by
      obtain rfl : j = k := by omega
      exact wh_of I step j env' μ' hI) h
theorem wh_go {wt : WT} {wb : WS} {n : En} (I : Nat → Ev → Mu → Prop) (k : Nat) {env : Ev} {μ : Mu} (h : I k env μ)
    (step : ∀ (k : Nat) (env : Ev) (μ : Mu) (K : Ev → Mu → Prop), (∀ env' μ' j, j + 1 = k → I j env' μ' → K env' μ') → I k env μ → wt env μ (fun b μ1 => if b = true then wb { n with nx := K, ct := K, bk := n.nx } env μ1 else n.nx env μ1) n.ex) :
    wWhile wt wb n env μ := ⟨k + 1, wh_of I step k env μ h⟩
/-- the words' turn table, told -/
theorem enumD_mem {l : List Int} {d : D} (h : d ∈ enumD (l.map D.int)) : ∃ i : Nat, i < l.length ∧ d = .tup [.int (i : Nat), .int (l.getD i 0)] := by
  obtain ⟨i, hi, e⟩ := List.mem_iff_getElem.mp h
  have hi' : i < l.length := by
    rw [enumD_len, List.length_map] at hi
    exact hi
  refine ⟨i, hi', ?_⟩
  have z : (l.map D.int)[i]? = some (.int (l.getD i 0)) := by
    rw [List.getElem?_map, List.getD_eq_getElem?_getD, List.getElem?_eq_getElem hi']
    rfl
  have := enumD_at z
  rw [List.getElem?_eq_getElem hi] at this
  rw [← e]
  exact Option.some.inj this
theorem enumD_in {l : List Int} {i : Nat} (h : i < l.length) : D.tup [.int (i : Nat), .int (l.getD i 0)] ∈ enumD (l.map D.int) := by
  refine List.mem_of_getElem? (i := i) (enumD_at ?_)
  rw [List.getElem?_map, List.getD_eq_getElem?_getD, List.getElem?_eq_getElem h]
  rfl
end PD
set_option Elab.async false
set_option linter.all false
set_option maxRecDepth 100000
set_option maxHeartbeats 4000000
/-! PD47: told rows, turned and moved. -/
namespace PD
open PySem PySem.Spec L2
/-- a told row of bounded size -/
structure TO (m : Int) (n : Nat) (l mi rr : List Int) (st : Int) : Prop where
  hl : l ≠ []
  hr : rr ≠ []
  sl : Signs m l
  si : Signs m mi
  sr : Signs m rr
  zl : l.length ≤ 240
  zr : rr.length ≤ 240
  zm : mi.length ≤ n
  zs : -(n : Int) ≤ st ∧ st ≤ n
section
variable {m : Int} {n : Nat} {l mi rr : List Int} {st : Int} {r : RuleV}
theorem TO.ok (q : TO m n l mi rr st) (hn : n ≤ 200) : (rowV m l mi rr st).ok = true := by
  obtain ⟨hl, hr, sl, si, sr, zl, zr, zm, zs⟩ := q
  exact rowV_ok (by omega) (by omega) (by omega) (by omega)
theorem TO.gv (hm : 2 ≤ m ∧ m ≤ 4) (q : TO m n l mi rr st) (hn : n ≤ 200) : GV (rowV m l mi rr st) := GV.of hm q.hl q.hr q.sl q.si q.sr (q.ok hn)
theorem TO.next (g : GR r) (hm : r.many = m) (q : TO m n l mi rr st) : TO m (n + 51) (oL r l mi rr st) (oM r l mi rr st) (oR r l mi rr st) (oLow r st) := by
  subst hm
  obtain ⟨hl, hr, sl, si, sr, zl, zr, zm, zs⟩ := q
  have w1 := g.hw
  have w2 := g.hf
  obtain ⟨t1, t2, t3⟩ := o_signs (st := st) g hl hr sl si sr
  have e1 := oL_len (r := r) (l := l) (mi := mi) (rr := rr) (st := st)
  have e2 := oM_len (r := r) (l := l) (mi := mi) (rr := rr) (st := st)
  have e3 := oR_len (r := r) (l := l) (mi := mi) (rr := rr) (st := st)
  have e4 : oInn r mi = mi.length + r.width - 1 := rfl
  have e5 : oLow r st = st - r.first - (r.width : Nat) + 1 := rfl
  exact ⟨oL_ne hl, oR_ne hr, t1, t2, t3, by omega, by omega, by omega, by omega⟩
theorem TO.moved {k : Int} (hk : -20 ≤ k ∧ k ≤ 20) (q : TO m n l mi rr st) : TO m (n + 20) l mi rr (st + k) := by
  obtain ⟨hl, hr, sl, si, sr, zl, zr, zm, zs⟩ := q
  exact ⟨hl, hr, sl, si, sr, zl, zr, by omega, by omega⟩
theorem TO.of (g : GRow m l mi rr st) (z1 : mi.length ≤ n) (z2 : -(n : Int) ≤ st ∧ st ≤ n) : TO m n l mi rr st := ⟨g.hl, g.hr, g.sl, g.si, g.sr, Nat.le_trans g.zl (by decide), Nat.le_trans g.zr (by decide), z1, z2⟩
theorem TO.iter (g : GR r) (hm : r.many = m) (q : TO m n l mi rr st) (hn : n ≤ 149) {v : RowV} {i : Nat} (h : iterV r i v = some (rowV m l mi rr st)) : iterV r (i + 1) v = some (rowV m (oL r l mi rr st) (oM r l mi rr st) (oR r l mi rr st) (oLow r st)) := by
  have e : onceV r (rowV m l mi rr st) = rowV m (oL r l mi rr st) (oM r l mi rr st) (oR r l mi rr st) (oLow r st) := onceV_ext q.hl q.hr g.hw.1
  rw [← e]
  refine iterV_succ h ?_
  rw [e]
  exact (q.next g hm).ok (by omega)
theorem TO.cel (g : GR r) (q : TO m n l mi rr st) : celAt (oL r l mi rr st) (oM r l mi rr st) (oR r l mi rr st) (oLow r st) = turnC r (celAt l mi rr st) := funext fun p => once_cel q.hl q.hr g.hw.1 p
theorem TO.sign (q : TO m n l mi rr st) : ∀ p, 0 ≤ celAt l mi rr st p ∧ celAt l mi rr st p < m := cel_sign q.hl q.hr q.sl q.si q.sr
theorem TO.same {n' : Nat} {l' mi' rr' : List Int} {st' : Int} (q : TO m n l mi rr st) (q' : TO m n' l' mi' rr' st') (h : celAt l mi rr st = celAt l' mi' rr' st') : rowV m l mi rr st = rowV m l' mi' rr' st' := rowV_ext q.hl q.hr q'.hl q'.hr fun p => by rw [h]
theorem TO.mv {k : Int} (q : TO m n l mi rr st) : rowV (rowV m l mi rr st).many (rowV m l mi rr st).left (rowV m l mi rr st).mid (rowV m l mi rr st).right ((rowV m l mi rr st).at_ + k) = rowV m l mi rr (st + k) := move_ext q.hl q.hr
theorem cel_shift {k : Int} : celAt l mi rr (st + k) = fun p => celAt l mi rr st (p - k) := funext fun p => celAt_shift p
theorem turn_shift {c : Int → Int} {k : Int} : turnC r (fun p => c (p - k)) = fun p => turnC r c (p - k) := funext fun p => by
  show tAt r.table r.many _ = tAt r.table r.many _
  refine congrArg (tAt r.table r.many) (List.map_congr_left fun s _ => ?_)
  show c (p + r.first + (s : Nat) - k) = c (p - k + r.first + (s : Nat))
  rw [show p + r.first + ((s : Nat) : Int) - k = p - k + r.first + (s : Nat) by omega]
/-! ### wheels -/
theorem wheel_cel {w : List Int} : celAt w [] w 0 = wheelAt w := funext fun p => by
  unfold celAt
  show (if p < 0 then wheelAt w (p - 0) else if p < 0 + ((0 : Nat) : Int) then _ else wheelAt w (p - (0 + ((0 : Nat) : Int)))) = _
  rw [show p - 0 = p by omega, show p - (0 + ((0 : Nat) : Int)) = p by omega]
  by_cases c : p < 0
  · rw [if_pos c]
  · rw [if_neg c, if_neg (by omega)]
theorem wheel_mod {w : List Int} {p x : Int} : wheelAt w (p % (w.length : Int) + x) = wheelAt w (p + x) := by
  unfold wheelAt
  rw [Int.emod_add_emod]
theorem round_turn (q : TO m n l [] l 0) (g : GR r) (hm : r.many = m) : ∃ w', rowV m (oL r l [] l 0) (oM r l [] l 0) (oR r l [] l 0) (oLow r 0) = rowV m w' [] w' 0 ∧ w' ≠ [] := by
  have pl := List.length_pos_iff.mpr q.hl
  obtain ⟨w', hw'⟩ : ∃ w', w' = (List.range l.length).map fun s : Nat => turnC r (wheelAt l) (s : Nat) := ⟨_, rfl⟩
  have lw : w'.length = l.length := by rw [hw', List.length_map, List.length_range]
  have wn : w' ≠ [] := List.length_pos_iff.mp (by omega)
  refine ⟨w', rowV_ext (oL_ne q.hl) (oR_ne q.hr) wn wn fun p => ?_, wn⟩
  rw [once_cel q.hl q.hr g.hw.1, wheel_cel, wheel_cel]
  unfold wheelAt
  rw [lw, hw']
  have b0 := Int.emod_nonneg p (show (l.length : Int) ≠ 0 by omega)
  have b1 := Int.emod_lt_of_pos p (show 0 < (l.length : Int) by omega)
  rw [List.getD_eq_getElem?_getD, List.getElem?_map, List.getElem?_range (by omega)]
  show _ = turnC r (wheelAt l) (((p % (l.length : Int)).toNat : Nat) : Int)
  rw [Int.toNat_of_nonneg b0]
  show tAt r.table r.many _ = tAt r.table r.many _
  refine congrArg (tAt r.table r.many) (List.map_congr_left fun s _ => ?_)
  show wheelAt l (p + r.first + (s : Nat)) = wheelAt l (p % (l.length : Int) + r.first + (s : Nat))
  rw [Int.add_assoc, Int.add_assoc, wheel_mod]
theorem round_is {w : List Int} : (rowV m w [] w 0).mid = [] ∧ (rowV m w [] w 0).left = (rowV m w [] w 0).right := by
  rw [rowV_none (round_row (m := m))]
  exact ⟨rfl, rfl⟩
end
end PD
set_option Elab.async false
set_option linter.all false
set_option maxRecDepth 100000
set_option maxHeartbeats 4000000
/-! PD48: a rule's least form, by either way. -/
namespace PD
open PySem PySem.Spec L2
def canR (r : RuleV) : Bool := (List.range r.table.length).all fun i => decide (r.table.getD i 0 = r.table.getD (i - i % r.many.toNat) 0)
def dropR (r : RuleV) : RuleV := ⟨r.many, r.first, r.width - 1, stepL r.table (r.many.toNat : Int)⟩
def canL (r : RuleV) : Bool := decide ((List.replicate r.many.toNat (r.table.take (r.many.toNat ^ (r.width - 1)))).flatten = r.table)
def dropL (r : RuleV) : RuleV := ⟨r.many, r.first + 1, r.width - 1, r.table.take (r.many.toNat ^ (r.width - 1))⟩
def isC (r : RuleV) : Bool := decide (r.width = 1) && decide ((List.replicate r.many.toNat (r.table.take 1)).flatten = r.table)
def fixC (r : RuleV) : RuleV := if isC r = true then ⟨r.many, 0, r.width, r.table⟩ else r
/-- as the program goes -/
def trimN : Nat → RuleV → RuleV
  | 0, r => r
  | k + 1, r => if canR r = true then trimN k (dropR r) else if canL r = true then trimN k (dropL r) else r
def leastR (r : RuleV) : RuleV := fixC (trimN (r.width - 1) r)
theorem canR_at {r : RuleV} (h : canR r = true) : ∀ i, i < r.table.length → r.table.getD i 0 = r.table.getD (i - i % r.many.toNat) 0 := fun i hi => of_decide_eq_true (List.all_eq_true.mp h i (List.mem_range.mpr hi))
theorem canR_of {r : RuleV} (h : ∀ i, i < r.table.length → r.table.getD i 0 = r.table.getD (i - i % r.many.toNat) 0) : canR r = true := List.all_eq_true.mpr fun i hi => decide_eq_true (h i (List.mem_range.mp hi))
section
variable {r : RuleV} {k : Nat}
theorem tab_len (g : GR r) (hk : r.width = k + 1) : r.table.length = r.many.toNat * r.many.toNat ^ k ∧ 0 < r.many.toNat ^ k ∧ 2 ≤ r.many.toNat := by
  have hm := g.hm
  refine ⟨by rw [g.hl, hk, Nat.pow_succ, Nat.mul_comm], Nat.pow_pos (by omega), by omega⟩
theorem dropR_ok (g : GR r) (hk : r.width = k + 1) (h1 : 1 ≤ k) (h : canR r = true) : GR (dropR r) ∧ SameT r (dropR r) ∧ (dropR r).width = k := by
  obtain ⟨tl, p0, m2⟩ := tab_len g hk
  obtain ⟨lt, hat⟩ := step_getD (m := r.many.toNat) (j := r.many.toNat ^ k) (l := r.table) (by omega) tl
  obtain ⟨g1, s1⟩ := trimR g hk h1 (t := stepL r.table (r.many.toNat : Int)) lt (fun i hi => hat i (by rw [← lt]; exact hi)) (canR_at h)
  have e : dropR r = ⟨r.many, r.first, k, stepL r.table (r.many.toNat : Int)⟩ := by
    unfold dropR
    rw [hk, Nat.add_sub_cancel]
  rw [e]
  exact ⟨g1, s1, rfl⟩
theorem canL_at (g : GR r) (hk : r.width = k + 1) (h : canL r = true) : ∀ i, i < r.table.length → r.table.getD i 0 = r.table.getD (i % r.many.toNat ^ k) 0 := by
  obtain ⟨tl, p0, m2⟩ := tab_len g hk
  have h := of_decide_eq_true h
  rw [hk, Nat.add_sub_cancel] at h
  exact rep_getD (by omega) p0 (by rw [tl]; exact Nat.le_mul_of_pos_left _ (by omega)) h
theorem dropL_ok (g : GR r) (hk : r.width = k + 1) (h1 : 1 ≤ k) (h : canL r = true) : GR (dropL r) ∧ SameT r (dropL r) ∧ (dropL r).width = k := by
  obtain ⟨tl, p0, m2⟩ := tab_len g hk
  have le : r.many.toNat ^ k ≤ r.table.length := by
    rw [tl]
    exact Nat.le_mul_of_pos_left _ (by omega)
  have lt : (r.table.take (r.many.toNat ^ k)).length = r.many.toNat ^ k := by rw [List.length_take, Nat.min_eq_left le]
  obtain ⟨g1, s1⟩ := trimL g hk h1 (t := r.table.take (r.many.toNat ^ k)) lt (fun i hi => by rw [List.getD_eq_getElem?_getD, List.getElem?_take_of_lt (by omega), List.getD_eq_getElem?_getD]) (fun i hi => by rw [lt]; exact canL_at g hk h i hi)
  have e : dropL r = ⟨r.many, r.first + 1, k, r.table.take (r.many.toNat ^ k)⟩ := by
    unfold dropL
    rw [hk, Nat.add_sub_cancel]
  rw [e]
  exact ⟨g1, s1, rfl⟩
/-- where the last place counts it still counts behind a cut at the left -/
theorem canR_dropL (g : GR r) (hk : r.width = k + 1) (h1 : 1 ≤ k) (h : canL r = true) (hR : canR (dropL r) = true) : canR r = true := by
  obtain ⟨tl, p0, m2⟩ := tab_len g hk
  have le : r.many.toNat ^ k ≤ r.table.length := by
    rw [tl]
    exact Nat.le_mul_of_pos_left _ (by omega)
  have lt : (r.table.take (r.many.toNat ^ k)).length = r.many.toNat ^ k := by rw [List.length_take, Nat.min_eq_left le]
  have e : dropL r = ⟨r.many, r.first + 1, k, r.table.take (r.many.toNat ^ k)⟩ := by
    unfold dropL
    rw [hk, Nat.add_sub_cancel]
  rw [e] at hR
  have tk : ∀ i, i < r.many.toNat ^ k → (r.table.take (r.many.toNat ^ k)).getD i 0 = r.table.getD i 0 := fun i hi => by rw [List.getD_eq_getElem?_getD, List.getElem?_take_of_lt hi, List.getD_eq_getElem?_getD]
  have hR' : ∀ i, i < r.many.toNat ^ k → r.table.getD i 0 = r.table.getD (i - i % r.many.toNat) 0 := fun i hi => by
    have z := canR_at hR i (by show i < (r.table.take (r.many.toNat ^ k)).length; rw [lt]; exact hi)
    have z : (r.table.take (r.many.toNat ^ k)).getD i 0 = (r.table.take (r.many.toNat ^ k)).getD (i - i % r.many.toNat) 0 := z
    rw [tk i hi, tk _ (by have := Nat.sub_le i (i % r.many.toNat); omega)] at z
    exact z
  have dv : r.many.toNat ∣ r.many.toNat ^ k := ⟨r.many.toNat ^ (k - 1), by rw [Nat.mul_comm, ← Nat.pow_succ, show (k - 1).succ = k by omega]⟩
  refine canR_of fun i hi => ?_
  have hj : i % r.many.toNat ^ k < r.many.toNat ^ k := Nat.mod_lt _ p0
  have mm : (i % r.many.toNat ^ k) % r.many.toNat = i % r.many.toNat := Nat.mod_mod_of_dvd i dv
  have sub : (i - i % r.many.toNat) % r.many.toNat ^ k = i % r.many.toNat ^ k - i % r.many.toNat := by
    have lm : i % r.many.toNat ≤ i % r.many.toNat ^ k := by
      rw [← mm]
      exact Nat.mod_le _ _
    have d := Nat.div_add_mod i (r.many.toNat ^ k)
    have e2 : i - i % r.many.toNat = r.many.toNat ^ k * (i / r.many.toNat ^ k) + (i % r.many.toNat ^ k - i % r.many.toNat) := by omega
    rw [e2, Nat.mul_add_mod, Nat.mod_eq_of_lt (by omega)]
  rw [canL_at g hk h i hi, hR' _ hj, canL_at g hk h (i - i % r.many.toNat) (by have := Nat.sub_le i (i % r.many.toNat); omega), sub, mm]
end
theorem trimN_ok : ∀ (k : Nat) {r : RuleV}, GR r → r.width = k + 1 → GR (trimN k r) ∧ SameT r (trimN k r)
  | 0, r, g, _ => ⟨g, SameT.refl r⟩
  | k + 1, r, g, hw => by
    unfold trimN
    by_cases c : canR r = true
    · rw [if_pos c]
      obtain ⟨g1, s1, w1⟩ := dropR_ok g hw (by omega) c
      obtain ⟨g2, s2⟩ := trimN_ok k g1 w1
      exact ⟨g2, s1.trans s2⟩
    · rw [if_neg c]
      by_cases c2 : canL r = true
      · rw [if_pos c2]
        obtain ⟨g1, s1, w1⟩ := dropL_ok g hw (by omega) c2
        obtain ⟨g2, s2⟩ := trimN_ok k g1 w1
        exact ⟨g2, s1.trans s2⟩
      · rw [if_neg c2]
        exact ⟨g, SameT.refl r⟩
theorem fixC_ok {r : RuleV} (g : GR r) : GR (fixC r) ∧ SameT r (fixC r) := by
  unfold fixC
  by_cases c : isC r = true
  · rw [if_pos c]
    unfold isC at c
    rw [Bool.and_eq_true, decide_eq_true_eq, decide_eq_true_eq] at c
    have hm := g.hm
    have tl := g.hl
    rw [c.1, Nat.pow_one] at tl
    refine trimC g c.1 fun i hi => ?_
    have z := rep_getD (k := r.many.toNat) (n := 1) (by omega) (by omega) (by omega) c.2 i hi
    rw [Nat.mod_one] at z
    exact z
  · rw [if_neg c]
    exact ⟨g, SameT.refl r⟩
theorem leastR_ok {r : RuleV} (g : GR r) : GR (leastR r) ∧ SameT r (leastR r) := by
  have hw := g.hw
  obtain ⟨g1, s1⟩ := trimN_ok (r.width - 1) g (by omega)
  obtain ⟨g2, s2⟩ := fixC_ok g1
  exact ⟨g2, s1.trans s2⟩
/-! ### as the laws go: first all cuts at the right, then all at the left -/
def lawR : Nat → RuleV → RuleV
  | 0, r => r
  | k + 1, r => if canR r = true then lawR k (dropR r) else r
def lawL : Nat → RuleV → RuleV
  | 0, r => r
  | k + 1, r => if canL r = true then lawL k (dropL r) else r
theorem trimN_L : ∀ (k : Nat) {r : RuleV}, GR r → r.width = k + 1 → (1 ≤ k → canR r = false) → trimN k r = lawL k r
  | 0, r, _, _, _ => rfl
  | k + 1, r, g, hw, h => by
    unfold trimN lawL
    rw [if_neg (by rw [h (by omega)]; decide)]
    by_cases c2 : canL r = true
    · rw [if_pos c2, if_pos c2]
      obtain ⟨g1, s1, w1⟩ := dropL_ok g hw (by omega) c2
      refine trimN_L k g1 w1 fun _ => ?_
      cases e : canR (dropL r) with
      | false => rfl
      | true =>
        have := canR_dropL g hw (by omega) c2 e
        rw [h (by omega)] at this
        cases this
    · rw [if_neg c2, if_neg c2]
theorem trimN_law : ∀ (k : Nat) {r : RuleV}, GR r → r.width = k + 1 → trimN k r = lawL ((lawR k r).width - 1) (lawR k r)
  | 0, r, _, hw => by
    show r = lawL (r.width - 1) r
    rw [hw]
    rfl
  | k + 1, r, g, hw => by
    by_cases c : canR r = true
    · obtain ⟨g1, s1, w1⟩ := dropR_ok g hw (by omega) c
      unfold trimN lawR
      rw [if_pos c, if_pos c]
      exact trimN_law k g1 w1
    · have e : lawR (k + 1) r = r := by
        unfold lawR
        rw [if_neg c]
      rw [e, hw, Nat.add_sub_cancel]
      exact trimN_L (k + 1) g hw fun _ => by simpa using c
end PD
set_option Elab.async false
set_option linter.all false
set_option maxRecDepth 100000
set_option maxHeartbeats 4000000
/-! PD49: rules behind rules, all told; a call with keywords alone. -/
namespace PD
open PySem PySem.Spec L2
theorem px_callK0 {X : Cx} {f : Fm} {W : WX} {x : Str} {p pos : Pos} {sp : SpD} {wk : WA} {k : Nat} {g : Addr} {fd : FuncData} {ps ks : List Str} {kws : List Keyword} {gg : List Value → List Value → List Value} {gV : List V → List V → List V} {gD : List D → List D → List D} (G : FnOk X.prog X.w X.K X.mg X.base (L2.CX X.prog X.w) k g fd ps (spOf f.c sp)) (hr : Room k X.A) (hg : Gl X x)
    (hm : X.mg x = some (.ref g)) (hk : PySem.W.keepIn X.K (.ref g) = true) (hb : KBd X.K fd ps 0 ks gg gV gD) (tk : Takes X W) (hkw : PK X kws (La f W wk)) (hall : (backToKw pos (keywordEach kws X.env)).all (·.1.isSome) = true := by rfl)
    (hks : (backToKw pos (keywordEach kws X.env)).filterMap (·.1) = ks := by rfl) (hdb : (x == ("__debug__" : Str)) = false := by decide)
    (hpl : ((backTo pos (starEach [] X.env)).any (·.1) || (backToKw pos (keywordEach kws X.env)).any (·.1.isNone)) = false := by rfl) : PX X f W (.Call (.Name x p) [] kws pos) (wCallK sp 0 ks.length gD wNil wk) := by
  refine ⟨fun pins s σ H Q I h => ?_⟩
  obtain ⟨env, μ, F, Qp, Ep, rel, hw, k, kx⟩ := h
  have go : La f W wk σ H fun zs H2 => zs.length = ks.length ∧ spOf f.c sp (gV [] zs) H2 Q (L2.WE W σ) := by
    refine ⟨env, μ, F, _, Ep, rel, hw, fun es μ2 zs F2 H2 rel2 e2 r2 q2 => ?_, kx⟩
    exact ⟨by rw [r2.len]; exact q2.2.1, sp_of rel2 (hb.reps _ _ _ _ _ _ .nil r2) q2.2.2 (fun r μ3 v F3 H3 rel3 e3 rr3 q3 => k r μ3 v F3 H3 rel3 (e2.trans e3) rr3 q3)
      fun x μ3 cls d F3 H3 rel3 e3 xr q3 => kx x μ3 cls d F3 H3 rel3 (e2.trans e3) xr q3⟩
  refine wpAny_Call_Name_kw (ld_glob I hg hm ?_ hdb)
  refine PySem.W.callWith_KW0 (h₀ := X.base) I.ok.mod.kin hk hall (thn (hkw.run pos pins s σ H _ I go) fun wz s2 hz => ?_) hpl
  obtain ⟨zs, H2, I2, rz, l2, q2⟩ := hz
  refine ⟨I2.kIn, ?_⟩
  rw [hks]
  exact run_kw G hr hb.toKBn (passAt tk σ) I2 .nil rz rfl l2 q2
def behW (a b : RuleV) : Nat := a.width + b.width - 1
def rawB (a b : RuleV) : RuleV := ⟨b.many, a.first + b.first, behW a b, behindT a b (behW a b)⟩
def tooWide (a b : RuleV) : Bool := decide (1024 < b.many.toNat ^ behW a b) || !(decide (-40 ≤ a.first + b.first) && decide (a.first + b.first + (behW a b : Nat) ≤ 41))
def behindR (a b : RuleV) : RuleV := leastR (rawB a b)
section
variable {a b r : RuleV}
theorem tooWide_no {W : Nat} (hW : W = behW a b) (hz : b.many.toNat ^ W ≤ 1024) (hf : -40 ≤ a.first + b.first ∧ a.first + b.first + (W : Nat) ≤ 41) : tooWide a b = false := by
  subst hW
  unfold tooWide
  rw [decide_eq_false (by omega), decide_eq_true hf.1, decide_eq_true hf.2]
  rfl
theorem tooWide_at (h : tooWide a b = false) : b.many.toNat ^ behW a b ≤ 1024 ∧ -40 ≤ a.first + b.first ∧ a.first + b.first + (behW a b : Nat) ≤ 41 := by
  unfold tooWide at h
  rw [Bool.or_eq_false_iff, Bool.not_eq_false', Bool.and_eq_true, decide_eq_false_iff_not, decide_eq_true_eq, decide_eq_true_eq] at h
  omega
theorem rawB_ok (ga : GR a) (gb : GR b) (hm : a.many = b.many) (h : tooWide a b = false) : GR (rawB a b) ∧ ∀ c : Int → Int, (∀ p, 0 ≤ c p ∧ c p < b.many) → ∀ p, turnC (rawB a b) c p = turnC b (turnC a c) p := by
  obtain ⟨h1, h2, h3⟩ := tooWide_at h
  have bm := gb.hm
  have wa := ga.hw
  have wb := gb.hw
  have h10 : behW a b ≤ 10 := by
    by_cases c : behW a b ≤ 10
    · exact c
    · have z1 : 2 ^ 11 ≤ 2 ^ behW a b := Nat.pow_le_pow_right (by decide) (by omega)
      have z2 : 2 ^ behW a b ≤ b.many.toNat ^ behW a b := Nat.pow_le_pow_left (by omega) _
      have z3 : (2 : Nat) ^ 11 = 2048 := by decide
      omega
  exact behind_ok ga gb hm (by unfold behW; omega) h1 ⟨h2, h3⟩ h10
theorem behindR_ok (ga : GR a) (gb : GR b) (hm : a.many = b.many) (h : tooWide a b = false) : GR (behindR a b) ∧ (behindR a b).many = b.many ∧ ∀ c : Int → Int, (∀ p, 0 ≤ c p ∧ c p < b.many) → ∀ p, turnC (behindR a b) c p = turnC b (turnC a c) p := by
  obtain ⟨g1, s1⟩ := rawB_ok ga gb hm h
  obtain ⟨g2, s2⟩ := leastR_ok g1
  exact ⟨g2, s2.1, fun c hc p => (s2.2 c hc p).trans (s1 c hc p)⟩
/-! ### once least, ever least -/
theorem trimN_stuck : ∀ (k : Nat) {r : RuleV}, GR r → r.width = k + 1 → (1 < (trimN k r).width → canR (trimN k r) = false ∧ canL (trimN k r) = false)
  | 0, r, g, hw, h => by
    have : 1 < r.width := h
    omega
  | k + 1, r, g, hw, h => by
    unfold trimN at h ⊢
    by_cases c : canR r = true
    · rw [if_pos c] at h ⊢
      obtain ⟨g1, s1, w1⟩ := dropR_ok g hw (by omega) c
      exact trimN_stuck k g1 w1 h
    · rw [if_neg c] at h ⊢
      by_cases c2 : canL r = true
      · rw [if_pos c2] at h ⊢
        obtain ⟨g1, s1, w1⟩ := dropL_ok g hw (by omega) c2
        exact trimN_stuck k g1 w1 h
      · rw [if_neg c2]
        exact ⟨by simpa using c, by simpa using c2⟩
theorem trimN_fix {k : Nat} (h : 1 < r.width → canR r = false ∧ canL r = false) (hk : k = r.width - 1) : trimN k r = r := by
  cases k with
  | zero => rfl
  | succ k =>
    obtain ⟨h1, h2⟩ := h (by omega)
    show (if canR r = true then _ else if canL r = true then _ else r) = r
    rw [h1, h2]
    rfl
theorem leastR_twice (g : GR r) : leastR (leastR r) = leastR r := by
  have hw := g.hw
  obtain ⟨q, hq⟩ : ∃ q, q = trimN (r.width - 1) r := ⟨_, rfl⟩
  have st := trimN_stuck (r.width - 1) g (by omega)
  rw [← hq] at st
  have e1 : leastR r = fixC q := by
    unfold leastR
    rw [hq]
  rw [e1]
  by_cases c : isC q = true
  · have c' := c
    unfold isC at c'
    rw [Bool.and_eq_true, decide_eq_true_eq] at c'
    have e2 : fixC q = ⟨q.many, 0, q.width, q.table⟩ := if_pos c
    rw [e2]
    show fixC (trimN (q.width - 1) _) = _
    rw [c'.1]
    have e3 : isC ⟨q.many, 0, 1, q.table⟩ = true := by
      rw [← c]
      unfold isC
      rw [c'.1]
    show fixC ⟨q.many, 0, 1, q.table⟩ = _
    exact if_pos e3
  · have e2 : fixC q = q := if_neg c
    rw [e2]
    unfold leastR
    rw [trimN_fix st rfl, e2]
end
end PD
set_option Elab.async false
set_option linter.all false
set_option maxRecDepth 100000
set_option maxHeartbeats 2000000
/-! PDK5: l[::k] of a list, k above nought. -/
namespace L2
open PySem PySem.Spec PyProof.Rows HT
theorem pick_pos (items : Array Value) {k : Int} (hk : 0 < k) : slicePick items none none (some k) = (stepL items.toList k).toArray := by
  have e1 : sliceBounds none none (some k) items.size = (0, (items.size : Int), k) := by
    unfold sliceBounds
    simp only [Option.getD_some, hk, gt_iff_lt, if_true]
  unfold slicePick
  rw [e1]
  show ((sliceRange 0 (items.size : Int) k).filterMap (items[·]?)).toArray = _
  refine congrArg List.toArray ?_
  unfold sliceRange stepL
  have e2 : Builtin.Slice.sliceAdjust none none k (items.size : Int) = (0, (items.size : Int)) := by
    unfold Builtin.Slice.sliceAdjust
    have : ¬ k < 0 := by omega
    simp only [this, if_false]
  rw [Array.length_toList, e2]
  have e3 : (if k > 0 then (if (0 : Int) < (items.size : Int) then ((items.size : Int) - 0 + k - 1) / k else 0) else (if (0 : Int) > (items.size : Int) then (0 - (items.size : Int) - k - 1) / (-k) else 0)).toNat = Builtin.Slice.slicePlaces 0 (items.size : Int) k := by
    unfold Builtin.Slice.slicePlaces
    rw [if_pos hk, if_pos hk]
    by_cases c : (0 : Int) < (items.size : Int)
    · rw [if_pos c, if_pos c, show (items.size : Int) - 0 + k - 1 = ((items.size : Int) - 0 - 1) + k * 1 by omega, Int.add_mul_ediv_left _ _ (by omega)]
    · rw [if_neg c, if_neg c]
  show (((List.range ((if k > 0 then (if (0 : Int) < (items.size : Int) then ((items.size : Int) - 0 + k - 1) / k else 0) else (if (0 : Int) > (items.size : Int) then (0 - (items.size : Int) - k - 1) / (-k) else 0)).toNat)).map fun (i : Nat) => (0 + k * (i : Int)).toNat).filterMap (items[·]?)) = _
  rw [e3, List.filterMap_map]
  refine congrArg (fun g => List.filterMap g _) (funext fun i => ?_)
  show items[(0 + k * (i : Int)).toNat]? = items.toList[(0 + (i : Int) * k).toNat]?
  rw [Int.mul_comm, Array.getElem?_toList]
def tStepL (K : PySem.W.Frag) (te : TE) (tp : TO) : TE := fun σ H Q => te σ H fun x H1 => tp σ H1 fun o H2 => ∃ (a : Addr) (xs : List V) (c : Int), x = .ref a ∧ o = some c ∧ SqL K H2 a xs ∧ 0 < c ∧ (stepL xs c).length ≤ sizeLine ∧ ∀ p, H2 p = none → Q (.ref p) (upd H2 p (.lst (stepL xs c)))
theorem pe_stepL {X : Cx} {e st : Expr} {te : TE} {tp : TO} {p3 pos : Pos} (he : PE X e te) (hst : PO X (some st) tp) : PE X (.Subscript e (.Slice none none (some st) p3) pos) (tStepL X.K te tp) := by
  refine ⟨fun pins s σ H Q I h => ?_⟩
  refine Subscript_ (thn (he.run pins s σ H _ I h) fun v s1 ⟨x, H1, I1, r1, q1⟩ => ?_)
  refine wpAny_Slice (thn (po_none.run pins s1 σ H1 (fun o H2 => o = none ∧ H2 = H1) I1 ⟨rfl, rfl⟩) fun vl s2 ⟨l, H2, I2, pl, el, e2⟩ => ?_)
  subst el e2
  refine thn (po_none.run pins s2 σ H2 (fun o H3 => o = none ∧ H3 = H2) I2 ⟨rfl, rfl⟩) fun vu s3 ⟨u, H3, I3, pu, eu, e3⟩ => ?_
  subst eu e3
  refine thn (hst.run pins s3 σ H3 _ I3 q1) fun vs s4 ⟨o, H4, I4, ps, q4⟩ => ?_
  obtain ⟨a, xs, c, ex, eo, hx, h0, hz0, q⟩ := q4
  subst ex eo
  cases r1
  have I5 : Inv X pins σ H4 { s4 with heap := s4.heap.push { cls := .type "slice", data := .fields #[vl, vu, vs] } } := I4.kept (t' := s4.toks) fun b ob q => Heap.get?_push_of_some _ q
  obtain ⟨its, r, ht, hz⟩ := I5.list hx
  have hlen := r.length
  show wpAny (model X.prog X.w) X.A (subscriptTail e (.Slice none none (some st) p3) (.ref a) (.ref s4.heap.objs.size)) (EP X pins σ Q) X.xe { s4 with heap := s4.heap.push { cls := .type "slice", data := .fields #[vl, vu, vs] } }
  refine tail_any (ops := [.ref a, .ref s4.heap.objs.size]) ht.isList.typeIs (PySem.slot_list_getitem.lookup) ?_ (by with_unfolding_all rfl)
  refine wpAny_getItem_list_slice ht.isList (Heap.IsSliceOf.new _ vl vu vs) pl pu ps (fun q => by cases q; omega) ?_ (by rw [List.size_toArray]; omega)
  rw [pick_pos _ h0]
  refine ⟨.ref _, _, I5.laid (t' := s4.toks) (o := .lst (stepL xs c)) (fun b ob q => Heap.get?_push_of_some _ q) (Nat.le_refl _) ?_, rfl, q _ (I5.hok.fresh (Nat.le_refl _))⟩
  exact ⟨hz0, _, 0, vals_step r c, Heap.get?_push_size _ rfl⟩
end L2
set_option Elab.async false
set_option linter.all false
set_option maxRecDepth 100000
set_option maxHeartbeats 4000000
/-! PD50: l[::k] of a list; tables doubled. -/
namespace PD
open PySem PySem.Spec L2
section
variable {X : Cx} {f : Fm} {W : WX} {a b : Expr} {wa : WE} {pos : Pos}
def wStepL (wa : WE) (wo : WO) : WE := fun env μ Q E => wa env μ (fun r μ1 => wo env μ1 (fun o μ2 => match r.d, o with
  | .lst l, some c => 0 < c ∧ (stepL l c).length ≤ sizeLine ∧ Q (.fresh (.lst (stepL l c))) μ2
  | _, _ => False) E) E
theorem px_stepL {p3 : Pos} {wo : WO} (hK : X.K = f.c.K) (ha : PX X f W a wa) (hb : PXO X f W (some b) wo) : PX X f W (.Subscript a (.Slice none none (some b) p3) pos) (wStepL wa wo) :=
  pe_imp (pe_stepL ha hb) fun σ H Q h => by
    obtain ⟨env, μ, F, Qp, Ep, rel, hw, k, kx⟩ := h
    refine ⟨env, μ, F, _, Ep, rel, hw, fun r1 μ1 v1 F1 H1 rel1 e1 rr1 q1 => ?_, kx⟩
    obtain ⟨F1', rel1', e1', rz1⟩ := settle rel1 rr1
    have eA := e1.trans e1'
    refine ⟨env, μ1, F1', _, Ep, rel1', q1, fun o μ2 F2 H2 rel2 e2 q2 => ?_, fun x μ2 cls d F2 H2 rel2 e2 xr q2 => kx x μ2 cls d F2 H2 rel2 (eA.trans e2) xr q2⟩
    have rz2 := rz1.mono e2
    cases d1 : r1.d <;> cases o <;> simp only [d1] at q2 <;> first | exact q2.elim | skip
    rename_i l c
    obtain ⟨h0, hz, q3⟩ := q2
    obtain ⟨p, xs, rfl, g1, g2⟩ := rz2.lst rel2 d1
    have rs := reps_step g2 c
    exact ⟨p, xs, c, rfl, rfl, SqL.of g1, h0, by rw [rs.len]; exact hz, yield_lst rel2 rs fun v F' H' r' s' rr => k _ μ2 v F' H' r' ((eA.trans e2).trans s') rr q3⟩
end
/-- each sign so many times -/
def dbl (t : List Int) (m : Nat) : List Int := t.flatMap fun s => List.replicate m s
theorem dbl_len {m : Nat} : ∀ t : List Int, (dbl t m).length = t.length * m
  | [] => by simp [dbl]
  | s :: t => by
    show ((s :: t).flatMap _).length = _
    rw [List.flatMap_cons, List.length_append, List.length_replicate, show (t.flatMap fun s => List.replicate m s) = dbl t m from rfl, dbl_len t, List.length_cons, Nat.add_mul]
    omega
theorem dbl_getD {m : Nat} (hm : 0 < m) : ∀ (t : List Int) (i : Nat), i < t.length * m → (dbl t m).getD i 0 = t.getD (i / m) 0
  | [], i, h => by simp at h
  | s :: t, i, h => by
    show ((s :: t).flatMap _).getD i 0 = _
    rw [List.flatMap_cons, List.getD_eq_getElem?_getD]
    by_cases c : i < m
    · rw [List.getElem?_append_left (by rw [List.length_replicate]; exact c), Nat.div_eq_of_lt c, List.getElem?_replicate, if_pos c]
      rfl
    · rw [List.getElem?_append_right (by rw [List.length_replicate]; omega), List.length_replicate, ← List.getD_eq_getElem?_getD]
      have h' : i - m < t.length * m := by
        rw [List.length_cons, Nat.add_mul] at h
        omega
      have e : i / m = (i - m) / m + 1 := by
        have := Nat.div_eq_sub_div hm (show m ≤ i by omega)
        exact this
      rw [e]
      exact dbl_getD hm t (i - m) h'
theorem list_extD {a b : List Int} (hl : a.length = b.length) (h : ∀ i, i < a.length → a.getD i 0 = b.getD i 0) : a = b := by
  refine List.ext_getElem? fun i => ?_
  by_cases c : i < a.length
  · have z := h i c
    rw [List.getD_eq_getElem?_getD, List.getD_eq_getElem?_getD, List.getElem?_eq_getElem c, List.getElem?_eq_getElem (by omega)] at z
    rw [List.getElem?_eq_getElem c, List.getElem?_eq_getElem (by omega)]
    exact congrArg some z
  · rw [List.getElem?_eq_none_iff.mpr (by omega), List.getElem?_eq_none_iff.mpr (by omega)]
/-- the law's test for a cut at the right -/
theorem canR_dbl {r : RuleV} {k : Nat} (g : GR r) (hk : r.width = k + 1) : decide (r.table = dbl (stepL r.table (r.many.toNat : Int)) r.many.toNat) = canR r := by
  obtain ⟨tl, p0, m2⟩ := tab_len g hk
  obtain ⟨lt, hat⟩ := step_getD (m := r.many.toNat) (j := r.many.toNat ^ k) (l := r.table) (by omega) tl
  have ld : (dbl (stepL r.table (r.many.toNat : Int)) r.many.toNat).length = r.table.length := by rw [dbl_len, lt, tl, Nat.mul_comm]
  have at_ : ∀ i, i < r.table.length → (dbl (stepL r.table (r.many.toNat : Int)) r.many.toNat).getD i 0 = r.table.getD (i - i % r.many.toNat) 0 := fun i hi => by
    have hd : i / r.many.toNat < r.many.toNat ^ k := by
      rw [Nat.div_lt_iff_lt_mul (by omega), Nat.mul_comm, ← tl]
      exact hi
    rw [dbl_getD (by omega) _ i (by rw [lt, Nat.mul_comm, ← tl]; exact hi), hat _ hd]
    have := Nat.div_add_mod i r.many.toNat
    rw [Nat.mul_comm] at this
    rw [show i / r.many.toNat * r.many.toNat = i - i % r.many.toNat by omega]
  rw [Bool.eq_iff_iff, decide_eq_true_eq]
  constructor
  · intro e
    refine canR_of fun i hi => ?_
    have z := at_ i hi
    rw [← e] at z
    exact z
  · intro hc
    refine list_extD ld.symm fun i hi => ?_
    rw [at_ i hi]
    exact canR_at hc i hi
end PD
set_option Elab.async false
set_option linter.all false
set_option maxRecDepth 100000
set_option maxHeartbeats 4000000
/-! PD51: the still rule behind others. -/
namespace PD
open PySem PySem.Spec L2
theorem allW_nums {m : Nat} (hm : 0 < m) : ∀ {k i : Nat} {w : List Int}, (allW m k)[i]? = some w → nums w (m : Int) = (i : Nat)
  | 0, i, w, h => by
    have h : ([[]] : List (List Int))[i]? = some w := h
    cases i with
    | zero =>
      have e : ([] : List Int) = w := by simpa using h
      rw [← e]
      rfl
    | succ i => simp at h
  | k + 1, i, w, h => by
    have hlt := (List.getElem?_eq_some_iff.mp h).1
    rw [allW_len, Nat.pow_succ] at hlt
    have hd : i / m < m ^ k := by
      rw [Nat.div_lt_iff_lt_mul hm]
      exact hlt
    have hml := Nat.mod_lt i hm
    obtain ⟨v, hv⟩ : ∃ v, (allW m k)[i / m]? = some v := ⟨_, List.getElem?_eq_getElem (by rw [allW_len]; exact hd)⟩
    have ih := allW_nums hm hv
    have z := flat_at (f := fun w => (List.range m).map fun s => w ++ [((s : Nat) : Int)]) (m := m) (l := allW m k) (i := i / m) (s := i % m) (a := v) (fun a _ => by rw [List.length_map, List.length_range]) hml hv
    have e : i / m * m + i % m = i := by
      have := Nat.div_add_mod i m
      rw [Nat.mul_comm] at this
      exact this
    rw [e] at z
    have h : ((allW m k).flatMap fun w => (List.range m).map fun s => w ++ [((s : Nat) : Int)])[i]? = some w := h
    rw [h, List.getElem?_map, List.getElem?_range hml] at z
    have e2 : w = v ++ [((i % m : Nat) : Int)] := Option.some.inj z
    rw [e2, nums_snoc, ih, ← Int.natCast_mul, ← Int.natCast_add, e]
theorem tab_all {t : List Int} {m : Int} {k : Nat} (hm : 0 < m) (hl : t.length = m.toNat ^ k) : (allW m.toNat k).map (fun w => tAt t m w) = t := by
  have eM : ((m.toNat : Nat) : Int) = m := Int.toNat_of_nonneg (by omega)
  refine list_extD (by rw [List.length_map, allW_len, hl]) fun i hi => ?_
  rw [List.length_map] at hi
  have z := allW_nums (m := m.toNat) (by omega) (List.getElem?_eq_getElem hi)
  rw [eM] at z
  rw [List.getD_eq_getElem?_getD, List.getElem?_map, List.getElem?_eq_getElem hi]
  show tAt t m _ = t.getD i 0
  unfold tAt
  rw [z, Int.toNat_natCast]
theorem still_at {m x : Int} (hx : 0 ≤ x ∧ x < m) : tAt (stillR m).table m [x] = x := by
  show ((List.range m.toNat).map fun i => ((i : Nat) : Int)).getD (nums [x] m).toNat 0 = x
  have e : nums [x] m = x := by
    show 0 * m + x = x
    omega
  rw [e, List.getD_eq_getElem?_getD, List.getElem?_map, List.getElem?_range (by omega)]
  show ((x.toNat : Nat) : Int) = x
  omega
theorem still_turn {m : Int} {w : List Int} (hs : Signs m w) : (stillR m).turn w = w := by
  unfold RuleV.turn tTurn
  show ((List.range (w.length + 1 - 1)).map fun i => tAt (stillR m).table m ((w.drop i).take 1)) = w
  rw [Nat.add_sub_cancel]
  refine list_extD (by rw [List.length_map, List.length_range]) fun i hi => ?_
  rw [List.length_map, List.length_range] at hi
  have e : (w.drop i).take 1 = [w[i]] := by
    rw [List.drop_eq_getElem_cons hi]
    rfl
  rw [List.getD_eq_getElem?_getD, List.getElem?_map, List.getElem?_range hi]
  show tAt (stillR m).table m ((w.drop i).take 1) = w.getD i 0
  rw [e, still_at (hs _ (List.getElem_mem hi)), List.getD_eq_getElem?_getD, List.getElem?_eq_getElem hi]
  rfl
section
variable {r : RuleV}
theorem rawB_stillL (g : GR r) : rawB (stillR r.many) r = r := by
  have hm := g.hm
  have eM : ((r.many.toNat : Nat) : Int) = r.many := Int.toNat_of_nonneg (by omega)
  have eW : behW (stillR r.many) r = r.width := by
    show 1 + r.width - 1 = r.width
    omega
  have eT : behindT (stillR r.many) r r.width = r.table := by
    unfold behindT
    rw [← tab_all (t := r.table) (m := r.many) (k := r.width) (by omega) g.hl]
    refine List.map_congr_left fun w hw => ?_
    rw [tab_all (t := r.table) (m := r.many) (k := r.width) (by omega) g.hl]
    obtain ⟨_, l2⟩ := allW_mem hw
    rw [still_turn fun x hx => by have := l2 x hx; omega]
  unfold rawB
  rw [eW, eT, show (stillR r.many).first + r.first = r.first by show 0 + r.first = r.first; omega]
theorem rawB_stillR (g : GR r) : rawB r (stillR r.many) = r := by
  have hm := g.hm
  have gw := g.hw
  have eM : ((r.many.toNat : Nat) : Int) = r.many := Int.toNat_of_nonneg (by omega)
  have eW : behW r (stillR r.many) = r.width := by
    show r.width + 1 - 1 = r.width
    omega
  have eT : behindT r (stillR r.many) r.width = r.table := by
    have z := tab_all (t := r.table) (m := r.many) (k := r.width) (by omega) g.hl
    refine Eq.trans ?_ z
    show (allW r.many.toNat r.width).map (fun w => tAt (stillR r.many).table r.many (r.turn w)) = _
    refine List.map_congr_left fun w hw => ?_
    obtain ⟨l1, l2⟩ := allW_mem hw
    have sw : Signs r.many w := fun x hx => by have := l2 x hx; omega
    have e : r.turn w = [tAt r.table r.many w] := by
      unfold RuleV.turn tTurn
      rw [show w.length + 1 - r.width = 1 by omega]
      show [tAt r.table r.many ((w.drop 0).take r.width)] = _
      rw [List.drop_zero, List.take_of_length_le (by omega)]
    rw [e]
    exact still_at (g.hs _ (tAt_mem (by omega) g.hl l1 sw))
  unfold rawB
  rw [eW, eT, show r.first + (stillR r.many).first = r.first by show r.first + 0 = r.first; omega]
  rfl
end
end PD
set_option Elab.async false
set_option linter.all false
set_option maxRecDepth 100000
set_option maxHeartbeats 2000000
/-! PD52: lists held by many that are lent to an expression; their append, clear. -/
namespace PD
open PySem PySem.Spec L2
section
variable {X : Cx} {f : Fm} {W : WX} {e o a : Expr} {wa wb w wo : WE} {pos apos cpos : Pos} {env : Ev} {μ : Mu} {σ : L2.St} {F H : Hp} {x : Str} {n : En} {Dn : Ends}
/-- what is fresh is held by many from now on -/
def wBox (wa : WE) : WE := fun env μ Q E => wa env μ (fun r μ1 => match r with
  | .fresh (.lst l) => ∀ a, μ1 a = none → Q (.fz (.hnd a)) (muSet μ1 a (.box l))
  | _ => False) E
theorem px_box (he : PX X f W e wa) : PX X f W e (wBox wa) := pe_imp he fun σ H Q h => by
  obtain ⟨env, μ, F, Qp, Ep, rel, hw, k, kx⟩ := h
  refine ⟨env, μ, F, _, Ep, rel, hw, fun r1 μ1 v1 F1 H1 rel1 e1 rr1 q1 => ?_, kx⟩
  cases r1 with
  | fz d => exact q1.elim
  | bor i k => exact q1.elim
  | fresh kk =>
    cases kk with
    | dic ks vs => exact q1.elim
    | dct ks vs => exact q1.elim
    | lst l =>
      obtain ⟨a, rfl, nf, nb, nm, no, hc⟩ := rr1
      exact k (.fz (.hnd a)) _ _ F1 H1 (rel1.share (m := .box l) nf nb nm no hc) e1 (Rep.hnd a) (q1 a nm)
/-- o.append(e), o's list held by many -/
def wAppH (wo wa : WE) : WS := fun n env μ => wo env μ (fun r0 μ0 => boxAt μ0 r0.d fun a _ => wa env μ0 (fun r μ1 => r.still fun d => boxAt μ1 (.hnd a) fun _ l => l.length < sizeLine ∧ n.nx env (muSet μ1 a (.box (l ++ [d])))) n.ex) n.ex
theorem px_appH (ho : PX X f W o wo) (he : PX X f W e wa) (hbase : attributeBase o "append" X.env (eval o X.env) = eval o X.env := by rfl) (hline : (apos.endLine == cpos.line) = true := by rfl) (hs : swapsWith (.Call (.Attribute o "append" apos) [e] [] cpos) none pos.line X.env = pure false := by rfl)
    (hfew : ((backTo cpos (starEach [e] X.env)).all (fun x => !x.1) && (backToKw cpos (keywordEach [] X.env)).all (fun x => x.1.isSome)
      && decide ([e].length + ([] : List Keyword).length + (if ([] : List Keyword).isEmpty then 0 else 1) < 30)) = true := by rfl)
    (hst : starEach [e] X.env = (false, eval e X.env) :: starEach [] X.env := by rfl) (hpl : (backTo cpos (starEach [] X.env)).any (·.1) = false := by rfl) :
    PXS X f W (.Expr (.Call (.Attribute o "append" apos) [e] [] cpos) pos) (wAppH wo wa) :=
  ps_imp (ps_expr (pe_bm PySem.F.plainAttrs_list PySem.F.slot_list_append PySem.F.type_list_append mt_append ho (pa_cons he pa_nil hst) hbase hfew hline hst hpl) hs) fun Dn σ H h => by
    obtain ⟨env, μ, F, n, rel, hw, ok⟩ := h
    refine ⟨env, μ, F, _, _, rel, hw, fun r0 μ0 v0 F0 H0 rel0 e0 rr0 q0 => ?_, fun x μ2 cls d F2 H2 rel2 e2 xr q2 => ok.ex x env μ2 σ cls d F2 H2 rel2 e2 xr q2⟩
    obtain ⟨F3, rel3, e3, rz0⟩ := settle rel0 rr0
    obtain ⟨a, l0, ea, hm0, q⟩ := boxAt_of q0
    obtain ⟨_, _, xs, g1, g2⟩ := rel3.mu a _ hm0
    obtain rfl := rz_hnd rz0 ea
    have eA := e0.trans e3
    refine ⟨.inl ⟨rfl, xs, SqL.of g1⟩, env, μ0, F3, _, _, rel3, q, fun r1 μ1 v1 F1 H1 rel1 e1 rr1 q1 => ?_, fun x μ2 cls d F2 H2 rel2 e2 xr q2 => ok.ex x env μ2 σ cls d F2 H2 rel2 (eA.trans e2) xr q2⟩
    obtain ⟨F2, rel2, e2, rz1⟩ := settle rel1 rr1
    obtain ⟨s1, q2⟩ := still_ok rz1 q1
    obtain ⟨a', l, ea', hm, hl, q3⟩ := boxAt_of q2
    cases ea'
    obtain ⟨_, _, ys, k1, k2⟩ := rel2.mu _ _ hm
    refine ⟨_, ys, v1, rfl, rfl, k1, by rw [k2.len]; exact hl, ?_⟩
    exact ok.nx _ _ σ F2 _ (rel2.writeBox hm (k2.app (.one s1))) ((eA.trans e1).trans e2) q3
/-- o.clear() -/
def wClrH (wo : WE) : WS := fun n env μ => wo env μ (fun r0 μ0 => boxAt μ0 r0.d fun a _ => n.nx env (muSet μ0 a (.box []))) n.ex
theorem px_clearH (ho : PX X f W o wo) (hbase : attributeBase o "clear" X.env (eval o X.env) = eval o X.env := by rfl) (hline : (apos.endLine == cpos.line) = true := by rfl) (hs : swapsWith (.Call (.Attribute o "clear" apos) [] [] cpos) none pos.line X.env = pure false := by rfl) :
    PXS X f W (.Expr (.Call (.Attribute o "clear" apos) [] [] cpos) pos) (wClrH wo) :=
  ps_imp (ps_expr (pe_bm0 PySem.F.plainAttrs_list PySem.F.slot_list_clear PySem.F.type_list_clear mt_clear ho hbase hline) hs) fun Dn σ H h => by
    obtain ⟨env, μ, F, n, rel, hw, ok⟩ := h
    refine ⟨env, μ, F, _, _, rel, hw, fun r0 μ0 v0 F0 H0 rel0 e0 rr0 q0 => ?_, fun x μ2 cls d F2 H2 rel2 e2 xr q2 => ok.ex x env μ2 σ cls d F2 H2 rel2 e2 xr q2⟩
    obtain ⟨F3, rel3, e3, rz0⟩ := settle rel0 rr0
    obtain ⟨a, l0, ea, hm0, q⟩ := boxAt_of q0
    obtain ⟨_, _, xs, g1, g2⟩ := rel3.mu a _ hm0
    obtain rfl := rz_hnd rz0 ea
    exact ⟨.inl ⟨rfl, xs, SqL.of g1⟩, _, xs, rfl, rfl, g1, ok.nx _ _ σ F3 _ (rel3.writeBox hm0 Reps.nil) (e0.trans e3) q⟩
/-- x.clear(), x's list the slot's own -/
def wClr (i : Nat) : WS := fun n env μ => ownL i env fun _ => n.nx (env.set i (some (.own (.lst [])))) μ
theorem px_clear {i : Nat} {pv : Pos} (hN : X.N[i]? = some x) (hv : Vis X.env.scope x) (hd : (x == ("__debug__" : Str)) = false := by decide) (hcd : (x == ("__classdict__" : Str)) = false := by decide)
    (hbase : attributeBase (.Name x pv) "clear" X.env (eval (.Name x pv) X.env) = eval (.Name x pv) X.env := by rfl) (hline : (apos.endLine == cpos.line) = true := by rfl) (hs : swapsWith (.Call (.Attribute (.Name x pv) "clear" apos) [] [] cpos) none pos.line X.env = pure false := by rfl) :
    PXS X f W (.Expr (.Call (.Attribute (.Name x pv) "clear" apos) [] [] cpos) pos) (wClr i) :=
  ps_imp (ps_expr (pe_bm0 PySem.F.plainAttrs_list PySem.F.slot_list_clear PySem.F.type_list_clear mt_clear (pe_var (i := i) hN hv hd hcd) hbase hline) hs) fun Dn σ H h => by
    obtain ⟨env, μ, F, n, rel, hw, ok⟩ := h
    obtain ⟨l, hl, hw⟩ := ownL_at hw
    obtain ⟨a, xs, g1, g2, g3⟩ := own_get rel hl
    exact ⟨.ref a, g1, .inl ⟨rfl, xs, SqL.of g2⟩, a, xs, rfl, rfl, g2, ok.nx _ μ σ F _ (rel.writeOwn (k' := .lst []) hl g1 ⟨_, upd_same, Reps.nil⟩ (fun ps z => by cases z)) (Same.refl _) hw⟩
/-! ### lending -/
mutual
/-- lists that are held by many, told by what they hold -/
inductive Fil (μ : Mu) : D → D → Prop
  | same (d : D) : Fil μ d d
  | hnd {a : Addr} {l : List D} : μ a = some (.box l) → Fil μ (.hnd a) (.lst l)
  | tup {l m : List D} : Fils μ l m → Fil μ (.tup l) (.tup m)
  | lst {l m : List D} : Fils μ l m → Fil μ (.lst l) (.lst m)
inductive Fils (μ : Mu) : List D → List D → Prop
  | nil : Fils μ [] []
  | cons {d d' : D} {l m : List D} : Fil μ d d' → Fils μ l m → Fils μ (d :: l) (d' :: m)
end
mutual
/-- no list is in it -/
def D.nol : D → Bool
  | .non => true
  | .bl _ => true
  | .int _ => true
  | .str _ => true
  | .tup l => nols l
  | .lst _ => false
  | .dic _ _ => false
  | .dct _ _ => false
  | .ins _ _ vs => nols vs
  | .hnd _ => true
  | .scr _ => false
  | .exc _ _ _ _ vs => nols vs
def nols : List D → Bool
  | [] => true
  | d :: l => d.nol && nols l
end
/-- an object that is a list or a dict -/
def Boxy (u : HO) : Prop := (∃ xs, u = .lst xs) ∨ (∃ kvs, u = .dK kvs) ∨ ∃ kvs, u = .dT kvs
section
variable {c : Cfg} {F F' : Hp}
mutual
theorem rep_nol (h : ∀ b u, F b = some u → F' b = some u ∨ Boxy u) : ∀ (d : D) (v : V), Rep c F v d → d.nol = true → Rep c F' v d
  | .non, _, r, _ => by cases r; exact .non
  | .bl _, _, r, _ => by cases r; exact .bl _
  | .int _, _, r, _ => by cases r; exact .int _
  | .str _, _, r, _ => by cases r; exact .str _
  | .tup l, _, r, z => by
    cases r with
    | tup s r =>
      refine .tup ?_ (reps_nol h l _ r z)
      rcases h _ _ s with q | q
      · exact q
      · rcases q with ⟨_, q⟩ | ⟨_, q⟩ | ⟨_, q⟩ <;> cases q
  | .lst l, _, _, z => by cases z
  | .dic _ _, _, _, z => by cases z
  | .dct _ _, _, _, z => by cases z
  | .ins cn ns vs, _, r, z => by
    cases r with
    | ins m s o r =>
      have k1 : ∀ {b : Addr} {u : HO}, F b = some u → ¬ Boxy u → F' b = some u := fun h1 h2 => (h _ _ h1).resolve_right h2
      exact .ins m (k1 s fun q => by rcases q with ⟨_, q⟩ | ⟨_, q⟩ | ⟨_, q⟩ <;> cases q) (k1 o fun q => by rcases q with ⟨_, q⟩ | ⟨_, q⟩ | ⟨_, q⟩ <;> cases q) (reps_nol h vs _ r z)
  | .hnd _, _, r, _ => by cases r; exact .hnd _
  | .scr _, _, _, z => by cases z
  | .exc _ _ _ _ vs, _, r, z => by
    cases r with
    | exc m s r =>
      refine .exc m ?_ (reps_nol h vs _ r z)
      rcases h _ _ s with q | q
      · exact q
      · rcases q with ⟨_, q⟩ | ⟨_, q⟩ | ⟨_, q⟩ <;> cases q
theorem reps_nol (h : ∀ b u, F b = some u → F' b = some u ∨ Boxy u) : ∀ (ds : List D) (vs : List V), Reps c F vs ds → nols ds = true → Reps c F' vs ds
  | [], _, r, _ => by cases r; exact .nil
  | d :: ds, _, r, z => by
    cases r with
    | cons a b =>
      have z' : (d.nol && nols ds) = true := z
      rw [Bool.and_eq_true] at z'
      exact .cons (rep_nol h d _ a z'.1) (reps_nol h ds _ b z'.2)
end
mutual
theorem rep_fil (e : Same F F') (hb : ∀ a l, μ a = some (.box l) → ∃ xs, F' a = some (.lst xs) ∧ Reps c F' xs l) : ∀ {d d' : D} (v : V), Fil μ d d' → Rep c F v d → Rep c F' v d'
  | _, _, _, .same d, r => Rep.mono e _ _ r
  | _, _, _, .hnd h, r => by
    cases r
    obtain ⟨xs, h1, h2⟩ := hb _ _ h
    exact .lst h1 h2
  | _, _, _, .tup h, r => by
    cases r with
    | tup s r => exact .tup (e _ _ s) (reps_fil e hb _ h r)
  | _, _, _, .lst h, r => by
    cases r with
    | lst s r => exact .lst (e _ _ s) (reps_fil e hb _ h r)
theorem reps_fil (e : Same F F') (hb : ∀ a l, μ a = some (.box l) → ∃ xs, F' a = some (.lst xs) ∧ Reps c F' xs l) : ∀ {ds ds' : List D} (vs : List V), Fils μ ds ds' → Reps c F vs ds → Reps c F' vs ds'
  | _, _, _, .nil, r => by cases r; exact .nil
  | _, _, _, .cons h t, r => by
    cases r with
    | cons a b => exact .cons (rep_fil e hb _ h a) (reps_fil e hb _ t b)
end
end
def SV.calm : SV → SV
  | .val d => .val d
  | .own k => .val k.d
def calm (env : Ev) : Ev := env.map fun o => match o with
  | some sv => some sv.calm
  | none => none
theorem calm_at {i : Nat} {sv : SV} (h : (calm env)[i]? = some (some sv)) : ∃ sv', env[i]? = some (some sv') ∧ sv = sv'.calm := by
  unfold calm at h
  rw [List.getElem?_map] at h
  cases e : env[i]? with
  | none => rw [e] at h; cases h
  | some o =>
    cases o with
    | none => rw [e] at h; cases h
    | some s' =>
      rw [e] at h
      exact ⟨s', rfl, (Option.some.inj (Option.some.inj h)).symm⟩
/-- e is reckoned while nothing changes; slot i's lists are told by what they hold -/
def wLend (i : Nat) (w : WE) : WE := fun env μ Q E => ∃ d d', env[i]? = some (some (.val d)) ∧ Fil μ d d' ∧ w ((calm env).set i (some (.val d'))) mu0 (fun r _ => r.d.nol = true ∧ Q (.fz r.d) μ) fun _ _ => False
/-- .. no slot's -/
def wLend0 (w : WE) : WE := fun env μ Q E => w (calm env) mu0 (fun r _ => r.d.nol = true ∧ Q (.fz r.d) μ) fun _ _ => False
/-- what is lent -/
def lentP (env : Ev) (μ : Mu) (σ : L2.St) (b : Addr) : Prop := (∃ l, μ b = some (.box l)) ∨ ∃ (i : Nat) (k : Cont), env[i]? = some (some (SV.own k)) ∧ σ[i]? = some (some (V.ref b))
open Classical in
noncomputable def lentF (env : Ev) (μ : Mu) (σ : L2.St) (F H : Hp) : Hp := fun b => if lentP env μ σ b then H b else F b
theorem lent_obj (q : Rel f env μ σ F H) {b : Addr} (h : lentP env μ σ b) : F b = none ∧ f.B b = none ∧ ∃ u, H b = some u ∧ Boxy u := by
  rcases h with ⟨l, h⟩ | ⟨i, k, h1, h2⟩
  · obtain ⟨g1, g2, xs, g3, _⟩ := q.mu _ _ h
    exact ⟨g1, g2, _, g3, .inl ⟨_, rfl⟩⟩
  · obtain ⟨a', g1, g2, g3, g4, g5⟩ := q.sl i _ h1
    rw [h2] at g1
    cases g1
    cases k with
    | lst l =>
      obtain ⟨xs, g6, _⟩ := g5
      exact ⟨g2, g3, _, g6, .inl ⟨_, rfl⟩⟩
    | dic ks vs =>
      obtain ⟨kvs, g6, _⟩ := g5
      exact ⟨g2, g3, _, g6, .inr (.inl ⟨_, rfl⟩)⟩
    | dct ks vs =>
      obtain ⟨kvs, g6, _⟩ := g5
      exact ⟨g2, g3, _, g6, .inr (.inr ⟨_, rfl⟩)⟩
theorem lentF_yes {b : Addr} (h : lentP env μ σ b) : lentF env μ σ F H b = H b := if_pos h
theorem lentF_no {b : Addr} (h : ¬ lentP env μ σ b) : lentF env μ σ F H b = F b := if_neg h
theorem Rel.lent_same (q : Rel f env μ σ F H) : Same F (lentF env μ σ F H) := fun b u h => by
  by_cases p : lentP env μ σ b
  · rw [(lent_obj q p).1] at h
    cases h
  · rw [lentF_no p]
    exact h
theorem Rel.lend (q : Rel f env μ σ F H) {env' : Ev} (hl : env'.length = env.length) (hs : ∀ (i : Nat) (sv : SV), env'[i]? = some (some sv) → ∃ d v, sv = .val d ∧ σ[i]? = some (some v) ∧ Rep f.c (lentF env μ σ F H) v d) :
    Rel ⟨f.c, entryB mu0 H, lentF env μ σ F H⟩ env' mu0 σ (lentF env μ σ F H) H where
  bh := fun b o h => (entryB_some (μ := mu0) (H := H) h).1
  bn := fun b ps h => (entryB_some (μ := mu0) (H := H) h).2.2 ps rfl
  f0 := Same.refl _
  fh := fun b u h => by
    by_cases p : lentP env μ σ b
    · rw [lentF_yes p] at h
      exact h
    · rw [lentF_no p] at h
      exact q.fh b u h
  fb := fun b u h => .inl h
  ft := fun b ps h => by
    by_cases p : lentP env μ σ b
    · rw [lentF_yes p] at h
      obtain ⟨_, _, u, g1, g2⟩ := lent_obj q p
      rw [g1] at h
      rcases g2 with ⟨_, rfl⟩ | ⟨_, rfl⟩ | ⟨_, rfl⟩ <;> cases h
    · rw [lentF_no p] at h
      exact q.ft b ps h
  mu := fun a m h => by cases h
  tb := q.tb
  len := hl.trans q.len
  dj := fun i j k k' a h _ _ _ => by
    obtain ⟨d, v, z, _⟩ := hs i _ h
    cases z
  sl := fun i sv h => by
    obtain ⟨d, v, rfl, h1, h2⟩ := hs i _ h
    exact ⟨v, h1, h2⟩
open Classical in
/-- .. and given back -/
theorem Rel.lent_back (q : Rel f env μ σ F H) {env' : Ev} {μ' : Mu} {F' H' : Hp} (q' : Rel ⟨f.c, entryB mu0 H, lentF env μ σ F H⟩ env' μ' σ F' H') (s : Same (lentF env μ σ F H) F') :
    ∃ F2, Rel f env μ σ F2 H' ∧ Same F F2 ∧ ∀ b u, F' b = some u → F2 b = some u ∨ Boxy u := by
  have hB : ∀ b u, H b = some u → (∀ ps, u ≠ .tbl ps) → H' b = some u := fun b u h nt => q'.bh b u (entryB_of (μ := mu0) h rfl nt)
  have nB : ∀ b, entryB mu0 H b = none → f.B b = none := fun b h => by
    cases e : f.B b with
    | none => rfl
    | some u =>
      rw [entryB_of (μ := mu0) (q.bh b u e) rfl fun ps z => q.bn b ps (by rw [e, z])] at h
      cases h
  refine ⟨fun b => if lentP env μ σ b then none else F' b, ?_, ?_, ?_⟩
  · have sm : Same F (fun b => if lentP env μ σ b then none else F' b) := fun b u h => by
      by_cases p : lentP env μ σ b
      · rw [(lent_obj q p).1] at h
        cases h
      · exact (if_neg p).trans (s b u (q.lent_same b u h))
    have sub : ∀ b u, (if lentP env μ σ b then none else F' b) = some u → ¬ lentP env μ σ b ∧ F' b = some u := fun b u h => by
      by_cases p : lentP env μ σ b
      · rw [if_pos p] at h
        cases h
      · rw [if_neg p] at h
        exact ⟨p, h⟩
    exact {
      bh := fun b u h => hB b u (q.bh b u h) fun ps z => q.bn b ps (by rw [h, z])
      bn := q.bn
      f0 := q.f0.trans sm
      fh := fun b u h => q'.fh b u (sub b u h).2
      fb := fun b u h => by
        obtain ⟨p, h⟩ := sub b u h
        rcases q'.fb b u h with z | z
        · have z' : lentF env μ σ F H b = some u := z
          rw [lentF_no p] at z'
          exact q.fb b u z'
        · exact .inr (nB b z)
      ft := fun b ps h => q'.ft b ps (sub b _ h).2
      mu := fun a m h => by
        obtain ⟨h1, h2, h3⟩ := q.mu a m h
        obtain ⟨u, hu, nt⟩ := h3.there
        refine ⟨?_, h2, h3.stay sm fun u' hu' => by rw [hu] at hu'; rw [← hu']; exact hB a u hu nt⟩
        by_cases p : lentP env μ σ a
        · exact if_pos p
        · rw [if_neg p]
          cases e : F' a with
          | none => rfl
          | some u' =>
            rcases q'.fb a u' e with z | z
            · have z' : lentF env μ σ F H a = some u' := z
              rw [lentF_no p, h1] at z'
              cases z'
            · have z' : entryB mu0 H a = none := z
              rw [entryB_of (μ := mu0) hu rfl nt] at z'
              cases z'
      tb := q'.tb
      len := q.len
      dj := q.dj
      sl := fun i sv h => by
        cases sv with
        | val d =>
          obtain ⟨v, h1, h2⟩ := q.sl i _ h
          exact ⟨v, h1, Rep.mono sm _ _ h2⟩
        | own k =>
          obtain ⟨a, h1, h2, h3, h4, h5⟩ := q.sl i _ h
          obtain ⟨u, hu, nt⟩ := h5.there
          exact ⟨a, h1, if_pos (.inr ⟨i, k, h, h1⟩), h3, h4, h5.stay sm fun u' hu' => by rw [hu] at hu'; rw [← hu']; exact hB a u hu nt⟩ }
  · intro b u h
    by_cases p : lentP env μ σ b
    · rw [(lent_obj q p).1] at h
      cases h
    · exact (if_neg p).trans (s b u (q.lent_same b u h))
  · intro b u h
    by_cases p : lentP env μ σ b
    · obtain ⟨_, _, u', g1, g2⟩ := lent_obj q p
      have := s b u' (by rw [lentF_yes p]; exact g1)
      rw [h] at this
      cases this
      exact .inr g2
    · exact .inl ((if_neg p).trans h)
theorem lend_go {env' : Ev} {Q : VK} {Qp : R → Mu → Prop} (rel : Rel f env μ σ F H) (hl : env'.length = env.length) (hs : ∀ (i : Nat) (sv : SV), env'[i]? = some (some sv) → ∃ d v, sv = .val d ∧ σ[i]? = some (some v) ∧ Rep f.c (lentF env μ σ F H) v d)
    (hw : w env' mu0 (fun r _ => r.d.nol = true ∧ Qp (.fz r.d) μ) fun _ _ => False) (k : ∀ r μ' v F' H', Rel f env μ' σ F' H' → Same F F' → RR f env μ' σ F' H' v r → Qp r μ' → Q v H') :
    Lf ⟨f.c, entryB mu0 H, lentF env μ σ F H⟩ W w σ H Q := by
  refine ⟨env', mu0, _, _, _, rel.lend hl hs, hw, fun r μ' v F' H' rel' e' rr q => ?_, fun x μ' cls d F' H' _ _ _ q => q.elim⟩
  obtain ⟨z, q⟩ := q
  obtain ⟨F2, rel2, s2, hc⟩ := rel.lent_back rel' e'
  cases r with
  | fz d => exact k (.fz d) μ v F2 H' rel2 s2 (rep_nol hc d v rr z) q
  | fresh kk => cases kk <;> cases z
  | bor i kk => cases kk <;> cases z
theorem lent_box (rel : Rel f env μ σ F H) : ∀ a l, μ a = some (.box l) → ∃ xs, lentF env μ σ F H a = some (.lst xs) ∧ Reps f.c (lentF env μ σ F H) xs l := fun a l h => by
  obtain ⟨_, _, xs, h1, h2⟩ := rel.mu a _ h
  exact ⟨xs, by rw [lentF_yes (.inl ⟨l, h⟩)]; exact h1, Reps.mono rel.lent_same _ _ h2⟩
theorem lent_calm (rel : Rel f env μ σ F H) (i : Nat) (sv : SV) (h : (calm env)[i]? = some (some sv)) : ∃ d v, sv = .val d ∧ σ[i]? = some (some v) ∧ Rep f.c (lentF env μ σ F H) v d := by
  obtain ⟨s', h1, rfl⟩ := calm_at h
  cases s' with
  | val d =>
    obtain ⟨v, g1, g2⟩ := rel.sl i _ h1
    exact ⟨d, v, rfl, g1, Rep.mono rel.lent_same _ _ g2⟩
  | own k =>
    obtain ⟨a, g1, g2, g3, g4, g5⟩ := rel.sl i _ h1
    refine ⟨k.d, .ref a, rfl, g1, ?_⟩
    have p : lentP env μ σ a := .inr ⟨i, k, h1, g1⟩
    cases k with
    | lst l =>
      obtain ⟨xs, k1, k2⟩ := g5
      exact .lst (by rw [lentF_yes p]; exact k1) (Reps.mono rel.lent_same _ _ k2)
    | dic ks vs =>
      obtain ⟨kvs, k1, rfl, k2⟩ := g5
      exact .dic (by rw [lentF_yes p]; exact k1) (Reps.mono rel.lent_same _ _ k2)
    | dct ks vs =>
      obtain ⟨kvs, k1, rfl, k2⟩ := g5
      exact .dct (by rw [lentF_yes p]; exact k1) (Reps.mono rel.lent_same _ _ k2)
theorem px_lend (i : Nat) (he : ∀ B F0, PX X ⟨f.c, B, F0⟩ W e w) : PX X f W e (wLend i w) := ⟨fun pins s σ H Q I h => by
  obtain ⟨env, μ, F, Qp, Ep, rel, ⟨d, d', hd, hf, hw⟩, k, kx⟩ := h
  refine (he (entryB mu0 H) (lentF env μ σ F H)).run pins s σ H Q I (lend_go rel (by rw [List.length_set]; exact List.length_map _) (fun j sv h => ?_) hw k)
  rcases set_get h with ⟨rfl, h2⟩ | ⟨_, h⟩
  · cases h2
    obtain ⟨v, g1, g2⟩ := rel.sl j _ hd
    exact ⟨d', v, rfl, g1, rep_fil rel.lent_same (lent_box rel) v hf g2⟩
  · exact lent_calm rel j sv h⟩
theorem px_lend0 (he : ∀ B F0, PX X ⟨f.c, B, F0⟩ W e w) : PX X f W e (wLend0 w) := ⟨fun pins s σ H Q I h => by
  obtain ⟨env, μ, F, Qp, Ep, rel, hw, k, kx⟩ := h
  exact (he (entryB mu0 H) (lentF env μ σ F H)).run pins s σ H Q I (lend_go rel (List.length_map _) (lent_calm rel) hw k)⟩
end
end PD
set_option Elab.async false
set_option linter.all false
set_option maxRecDepth 100000
set_option maxHeartbeats 2000000
/-! PD53: rows told longer; rows told apart by a stretch of their cells. -/
namespace PD
open PySem PySem.Spec L2
variable {l mi r l' mi' r' : List Int} {st st' low m : Int}
theorem longer_cel (hl : l ≠ []) (hr : r ≠ []) {k f n : Nat} (e : st' = st - (k : Int) * l.length) (hn : n = k * l.length + mi.length + f) :
    celAt l (wordC l mi r st st' n) (wordC l mi r st (st + mi.length + f) r.length) st' = celAt l mi r st := funext fun p => by
  have pl := List.length_pos_iff.mpr hl
  have pr := List.length_pos_iff.mpr hr
  have kc : ((k * l.length : Nat) : Int) = (k : Int) * l.length := Int.natCast_mul ..
  refine celAt_cut (d := celAt l mi r st) (a := l.length) (b := r.length) (low := st') (high := st + mi.length + f) pl pr (by omega) (fun p hp => left_per hl (by omega)) (fun p hp => right_per (by omega)) ?_ ?_ rfl p
  · refine List.ext_getElem (by rw [List.length_map, List.length_range]) fun i h1 h2 => ?_
    rw [List.getElem_map, List.getElem_range, celAt_l (by omega)]
    unfold wheelAt
    have em : (st' - (l.length : Int) + (i : Nat) - st) % (l.length : Int) = i := by
      rw [e, show st - (k : Int) * l.length - (l.length : Int) + (i : Nat) - st = (i : Int) + (l.length : Int) * (-(k : Int) - 1) by rw [Int.mul_sub, Int.mul_neg, Int.mul_comm (l.length : Int) (k : Int)]; omega, Int.add_mul_emod_self_left]
      exact Int.emod_eq_of_lt (by omega) (by omega)
    rw [em, Int.toNat_natCast, List.getD_eq_getElem?_getD, List.getElem?_eq_getElem h1]
    rfl
  · unfold wordC
    rw [show (st + (mi.length : Int) + (f : Nat) - st').toNat = n by omega]
theorem word_at {n i : Nat} (h : i < n) : (wordC l mi r st low n).getD i 0 = celAt l mi r st (low + (i : Nat)) := by
  unfold wordC
  rw [List.getD_eq_getElem?_getD, List.getElem?_map, List.getElem?_range h]
  rfl
theorem alike_cel (hl : l ≠ []) (hr : r ≠ []) (hl' : l' ≠ []) (hr' : r' ≠ []) (z1 : l.length ≤ 12) (z2 : r.length ≤ 12) (z3 : l'.length ≤ 12) (z4 : r'.length ≤ 12) (a1 : low ≤ st - 24) (a2 : low ≤ st' - 24) (b1 : st + mi.length + 24 ≤ low + 80) (b2 : st' + mi'.length + 24 ≤ low + 80)
    (h : wordC l mi r st low 80 = wordC l' mi' r' st' low 80) (p : Int) : celAt l mi r st p = celAt l' mi' r' st' p := by
  have pl := List.length_pos_iff.mpr hl
  have pr := List.length_pos_iff.mpr hr
  have pl' := List.length_pos_iff.mpr hl'
  have pr' := List.length_pos_iff.mpr hr'
  have on : ∀ x, low ≤ x → x < low + 80 → celAt l mi r st x = celAt l' mi' r' st' x := fun x h1 h2 => by
    have e : low + (((x - low).toNat : Nat) : Int) = x := by omega
    have := congrArg (fun w => w.getD (x - low).toNat 0) h
    rw [word_at (by omega), word_at (by omega), e] at this
    exact this
  have hR : ∀ p, wheelAt r (p - (st + mi.length)) = wheelAt r' (p - (st' + mi'.length)) := by
    refine agree (f := fun p => wheelAt r (p - (st + mi.length))) (g := fun p => wheelAt r' (p - (st' + mi'.length))) (p := r.length) (q := r'.length) (a := low + 56) (wheel_per _) (wheel_per _) (by omega) (by omega) fun x h1 h2 => ?_
    have := on x (by omega) (by omega)
    rw [celAt_right (by omega), celAt_right (by omega)] at this
    exact this
  have hL : ∀ p, wheelAt l (p - st) = wheelAt l' (p - st') := by
    refine agree (f := fun p => wheelAt l (p - st)) (g := fun p => wheelAt l' (p - st')) (p := l.length) (q := l'.length) (a := low) (wheel_per _) (wheel_per _) (by omega) (by omega) fun x h1 h2 => ?_
    have := on x (by omega) (by omega)
    rw [celAt_l (by omega), celAt_l (by omega)] at this
    exact this
  by_cases c1 : p < low
  · rw [celAt_l (by omega), celAt_l (by omega)]
    exact hL p
  · by_cases c2 : p < low + 80
    · exact on p (by omega) c2
    · rw [celAt_right (by omega), celAt_right (by omega)]
      exact hR p
theorem cel_of_rowV (hl : l ≠ []) (hr : r ≠ []) (hl' : l' ≠ []) (hr' : r' ≠ []) {m' : Int} (h : rowV m l mi r st = rowV m' l' mi' r' st') (p : Int) : celAt l mi r st p = celAt l' mi' r' st' p := by
  rw [← rowV_cell (m := m) hl hr, ← rowV_cell (m := m') hl' hr', h]
theorem alike_iff {m' : Int} (hl : l ≠ []) (hr : r ≠ []) (hl' : l' ≠ []) (hr' : r' ≠ []) (z1 : l.length ≤ 12) (z2 : r.length ≤ 12) (z3 : l'.length ≤ 12) (z4 : r'.length ≤ 12) (a1 : low ≤ st - 24) (a2 : low ≤ st' - 24) (b1 : st + mi.length + 24 ≤ low + 80) (b2 : st' + mi'.length + 24 ≤ low + 80) :
    rowV m l mi r st = rowV m' l' mi' r' st' ↔ m = m' ∧ wordC l mi r st low 80 = wordC l' mi' r' st' low 80 := by
  constructor
  · intro h
    have em : m = m' := by
      have := congrArg RowV.many h
      rw [rowV_size.1, rowV_size.1] at this
      exact this
    refine ⟨em, ?_⟩
    unfold wordC
    exact List.map_congr_left fun s _ => cel_of_rowV hl hr hl' hr' h _
  · rintro ⟨rfl, h⟩
    exact rowV_ext hl hr hl' hr' fun p => alike_cel hl hr hl' hr' z1 z2 z3 z4 a1 a2 b1 b2 h p
theorem nol_ints : ∀ ks : List Int, nols (ks.map .int) = true
  | [] => rfl
  | _ :: ks => nol_ints ks
theorem nol_rg : ∀ ks : List Nat, ∀ a : Int, nols (ks.map fun i => D.int (a + (i : Nat))) = true
  | [], _ => rfl
  | _ :: ks, a => nol_rg ks a
theorem row_nol {v : RowV} : v.d.nol = true := by
  show ((D.tup (v.left.map .int)).nol && ((D.tup (v.mid.map .int)).nol && ((D.tup (v.right.map .int)).nol && true))) = true
  rw [show (D.tup (v.left.map .int)).nol = true from nol_ints _, show (D.tup (v.mid.map .int)).nol = true from nol_ints _, show (D.tup (v.right.map .int)).nol = true from nol_ints _]
  rfl
theorem rule_nol {r : RuleV} : r.d.nol = true := by
  show ((D.tup (r.table.map .int)).nol && ((D.tup (rgD r.first (r.first + (r.width : Nat)))).nol && true)) = true
  rw [show (D.tup (r.table.map .int)).nol = true from nol_ints _, show (D.tup (rgD r.first (r.first + (r.width : Nat)))).nol = true from nol_rg _ _]
  rfl
theorem mu_keep {μ : Mu} {a b : Addr} {m n : MO} (h : μ a = some m) (hb : μ b = none) : muSet μ b n a = some m := by
  rw [muSet_ne (fun e => by rw [e, hb] at h; cases h)]
  exact h
theorem mu_ne {μ : Mu} {a b : Addr} {m : MO} (h : μ a = some m) (hb : μ b = none) : a ≠ b := fun e => by
  rw [e, hb] at h
  cases h
theorem mu_other {μ : Mu} {a b : Addr} {m n : MO} (h : μ a = some m) (e : a ≠ b) : muSet μ b n a = some m := by
  rw [muSet_ne e]
  exact h
theorem two_eq {d : D} {a b a' b' : Int} (h1 : a = a') (h2 : b = b') : [d, D.int a, D.int b] = [d, D.int a', D.int b'] := by rw [h1, h2]
end PD
set_option Elab.async false
set_option linter.all false
set_option maxRecDepth 100000
set_option maxHeartbeats 2000000
/-! PD54: repr of an own object; a rule's text. -/
namespace PD
open PySem PySem.Spec L2
section
variable {X : Cx} {f : Fm} {W : WX} {a : Expr} {wa : WE} {pos p : Pos} {env : Ev} {μ : Mu} {σ : L2.St} {F H : Hp} {cn : Str} {sp : SpD} {C g : Addr}
theorem px_reprO (hK : X.K = f.c.K) (ow : SpeR X f.c "__repr__" cn sp) (tk : Takes X W) (hm : X.mg "repr" = none) (ha : PX X f W a wa) (gl : Gl X "repr" := by rfl) (hs : starEach [a] X.env = (false, eval a X.env) :: starEach [] X.env := by rfl) (hpl : (backTo pos (starEach [] X.env)).any (·.1) = false := by rfl) :
    PX X f W (.Call (.Name "repr" p) [a] [] pos) (wStrO cn sp wa) := by
  refine ⟨fun pins s σ H Q I h => ?_⟩
  obtain ⟨C, g, k, fd, ps, g1, g2, g4, g5, g6, g7, g8⟩ := ow.to
  have h1 : Lf f W wa σ H fun v0 H1 => ∃ v, [v0] = [v] ∧ ∃ (x : Addr), v = .ref x ∧ (∃ dx fs, H1 x = some (.ins C dx fs)) ∧ spOf f.c sp [v] H1 (fun z H' => ∃ y, z = .str y ∧ Q (.str y) H') (L2.WE W σ) := by
    obtain ⟨env, μ, F, Qp, Ep, rel, hw, k', kx⟩ := h
    refine ⟨env, μ, F, _, Ep, rel, hw, fun r1 μ1 v1 F1 H1 rel1 e1 rr1 q1 => ?_, kx⟩
    obtain ⟨F2, rel2, e2, rz⟩ := settle rel1 rr1
    obtain ⟨⟨ns, vs, en⟩, hsp⟩ := q1
    obtain ⟨x, dx, fs, ev, hx, _⟩ := own_ty hK g1 g2 rel2 rz en
    refine ⟨v1, rfl, x, ev, ⟨dx, fs, hx⟩, ?_⟩
    refine sp_of rel2 (.cons (by rw [en]; exact rz_ins rz en) .nil) hsp (fun r μ3 v F3 H3 rel3 e3 rr3 q3 => ?_) fun x μ3 cls d F3 H3 rel3 e3 xr q3 => kx x μ3 cls d F3 H3 rel3 ((e1.trans e2).trans e3) xr q3
    obtain ⟨y, rfl, q⟩ := q3
    have rb : Rep f.c F3 v (.str y) := rr3
    cases rb
    exact ⟨y, rfl, k' (.fz (.str y)) μ3 (.str y) F3 H3 rel3 ((e1.trans e2).trans e3) (.str _) q⟩
  refine wpAny_Call_Name_kw (ld_blt I gl hm (show bootBuiltins "repr" = some (.builtin "repr") from PyProof.Rows.boot_repr) ?_ (by decide) (by decide))
  refine PyProof.Rows.callWith_builtin1 (thn ((pa_cons ha pa_nil hs).run pos pins s σ H (fun vs H1 => ∃ v, vs = [v] ∧ ∃ (x : Addr), v = .ref x ∧ (∃ dx fs, H1 x = some (.ins C dx fs)) ∧ spOf f.c sp [v] H1 (fun z H' => ∃ y, z = .str y ∧ Q (.str y) H') (L2.WE W σ)) I
    h1) fun us s1 hv => ?_) hs hpl
  obtain ⟨vs, H1, I1, r1, v, rfl, x, rfl, ⟨dx, fs, hx⟩, q⟩ := hv
  obtain ⟨u, rfl, ru⟩ := vals1 r1
  obtain rfl : u = Value.ref x := ru
  obtain ⟨mA, J, _⟩ := ins_get I1.hok hx
  obtain ⟨od, J, _⟩ := J.look
  obtain ⟨m, hF⟩ := I1.fr
  refine PySem.W.repr_K (Room.in1 g7).units0 hF I1.ok.mod.kin J (by rw [hK]; exact g4) (by rw [hK]; exact g5) ?_
  refine wpAny_mono (run_fnA (E := L2.WE W σ) (us := [.ref x]) (vs := [.ref x]) g6 ((Room.in1 g7).mono (Nat.le_succ _)) I1.env0.in1 g8 (passAt tk σ) I1 (.cons rfl .nil) q) (fun r s' hq => ?_) fun _ _ e => e
  obtain ⟨z, H', I', rz, y, rfl, q'⟩ := hq
  obtain ⟨t, rfl⟩ := rz
  exact ⟨.str y, H', I', ⟨_, rfl⟩, q'⟩
end
theorem same2E {s t : Str} {P : R → Prop} (h : PySem.PyData.strOk s = true) (h2 : PySem.PyData.strOk t = true) (q : P (.fz (.bl true))) : eqok (.tup [.str s, .str t]) ∧ eqok (.tup [.str s, .str t]) ∧ P (.fz (.bl (id (eqv (.tup [.str s, .str t]) (.tup [.str s, .str t]))))) := by
  obtain ⟨h1, h2, h3⟩ := same2 (P := False) (R := True) h h2 trivial
  refine ⟨h1, h2, ?_⟩
  cases e : eqv (.tup [.str s, .str t]) (.tup [.str s, .str t])
  · rw [e] at h3
    exact h3.elim
  · exact q
/-- a rule's text -/
def ruleS (r : RuleV) : Str := Str.empty ++ (toString r.many : Str) ++ " " ++ (toString r.first : Str) ++ " " ++ figS r.table
theorem log_lt {i : Int} (h : i.natAbs < 1000 * 1000) : i.natAbs.log2 < 1920 := by
  have := (Nat.log2_lt (n := i.natAbs) (k := 20))
  by_cases c : i.natAbs = 0
  · rw [c]; decide
  · have := (this c).mpr (by omega)
    omega
end PD
set_option Elab.async false
set_option linter.all false
set_option maxRecDepth 100000
set_option maxHeartbeats 2000000
/-! PD55: two fors, the list one slot's own; lists of words; roots of words repeated. -/
namespace PD
open PySem PySem.Spec L2
section
variable {X : Cx} {f : Fm} {W : WX} {σ : L2.St} {H : Hp} {F : Hp} {env : Ev} {μ : Mu}
theorem px_setLc2O {i : Nat} {y : Str} {py spos pos : Pos} {elt tg iter tg1 iter1 : Expr} {scope : Scope} {own : List (Str × Nat)} {vs1 : List Nat} {wi wi1 : WI} {wg wg1 : WG} {gs gs1 : List Nat} {we : WE} (hc : X.calm = true) (hN : X.N.Nodup) (hy : X.N[i]? = some y) (hyl : X.env.scope.names.lookup y = some .local)
    (hsw : swapsWith (.ListComp elt [⟨tg, iter, [], 0⟩, ⟨tg1, iter1, [], 0⟩] scope pos) (some (.Name y py)) spos.line X.env = pure true) (hi : PXI X f W tg iter wi) (ok : BlkOk X.N X.env.scope scope own) (hgs : ∀ i ∈ gs, i ∈ own.map (·.2)) (hgs1 : ∀ i ∈ gs1, i ∈ vs1) (hv : ∀ i ∈ vs1, i ∈ own.map (·.2))
    (hg : ∀ (s : Shared) (H : Hp) (C : Addr) (cl : List (Str × Addr)) (fp : List Addr) (B : Hp), PXG (X.blk s H scope (compEnvC scope cl C X.env) fp) ⟨f.c, B, f.F0⟩ tg wg gs)
    (hi1 : ∀ (s : Shared) (H : Hp) (C : Addr) (cl : List (Str × Addr)) (fp : List Addr) (B : Hp), PXI (X.blk s H scope (compEnvC scope cl C X.env) fp) ⟨f.c, B, f.F0⟩ (fun _ _ _ _ => False) tg1 iter1 wi1)
    (hg1 : ∀ (s : Shared) (H : Hp) (C : Addr) (cl : List (Str × Addr)) (fp : List Addr) (B : Hp), PXG (X.blk s H scope (compEnvC scope cl C X.env) fp) ⟨f.c, B, f.F0⟩ tg1 wg1 gs1)
    (he : ∀ (s : Shared) (H : Hp) (C : Addr) (cl : List (Str × Addr)) (fp : List Addr) (B : Hp), PX (X.blk s H scope (compEnvC scope cl C X.env) fp) ⟨f.c, B, f.F0⟩ (fun _ _ _ _ => False) elt we) (hs : ∀ x, foldedSetIterable iter X.env x = pure x := by intro _; rfl) (hs1 : ∀ env x, foldedSetIterable iter1 env x = pure x := by intro _ _; rfl) :
    PXS X f W (.Assign [.Name y py] (.ListComp elt [⟨tg, iter, [], 0⟩, ⟨tg1, iter1, [], 0⟩] scope pos) spos) (wAsgO i (wLc2 wi wg wi1 wg1 we (own.map (·.2)) vs1)) :=
  ps_imp (ps_setLc2 hc hN hy hyl hsw hi ok hv (fun s H C cl fp => pg_any (hg s H C cl fp)) (fun s H C cl fp => px_tsNil) (fun s H C cl fp => pi_any (hi1 s H C cl fp)) (fun s H C cl fp => pg_any (hg1 s H C cl fp)) (fun s H C cl fp => px_tsNil) (fun s H C cl fp => pe_any (he s H C cl fp)) hs hs1) fun D σ H h => lc2_ok hgs hgs1 σ H _ (asgO_ok h)
end
theorem rootL_take {l : List Int} : rootL l = l.take (rootL l).length := by
  unfold rootL
  split
  · rename_i n e
    rw [List.length_take]
    by_cases c : n + 1 ≤ l.length
    · rw [Nat.min_eq_left c]
    · rw [Nat.min_eq_right (by omega), List.take_length, List.take_of_length_le (by omega)]
  · rw [List.take_length]
theorem root_rep {w : List Int} {k : Nat} (hk : 0 < k) (hw : w ≠ []) : rootL (List.replicate k w).flatten = rootL w := by
  have e : (rootL (List.replicate k w).flatten).length = (rootL w).length := root_len_eq (rep_ne hk hw) hw (a := 0) fun i => by rw [wheel_rep hk hw, Int.add_zero]
  rw [rootL_take, e]
  obtain ⟨j, rfl⟩ : ∃ j, k = j + 1 := ⟨k - 1, by omega⟩
  rw [List.replicate_succ, List.flatten_cons, List.take_append_of_le_length rootL_len]
  exact rootL_take.symm
theorem sms_words : ∀ {l : List (List Int)}, (∀ w ∈ l, w.length ≤ 100000) → sms (l.map wordD) = true
  | [], _ => rfl
  | w :: l, h => by
    show ((D.tup (w.map .int)).sm && sms (l.map wordD)) = true
    rw [sm_word (h w (List.mem_cons_self ..)), sms_words fun v hv => h v (List.mem_cons_of_mem _ hv)]
    rfl
theorem deps_words : ∀ {l : List (List Int)}, deps (l.map wordD) ≤ 1
  | [] => by show 0 ≤ 1; omega
  | w :: l => by
    show max (D.tup (w.map .int)).dep (deps (l.map wordD)) ≤ 1
    rw [dep_word]
    have := deps_words (l := l)
    omega
end PD
set_option Elab.async false
set_option linter.all false
set_option maxRecDepth 100000
set_option maxHeartbeats 2000000
/-! PD56: dicts: made, read, asked, stored into. -/
namespace PD
open PySem PySem.Spec L2
/-! ### keys as data; what a dict holds -/
def keyD : Key → D
  | .inl i => .int i
  | .inr x => .str x
def dKey : D → Option Key
  | .int i => some (.inl i)
  | .str x => some (.inr x)
  | _ => none
def dKeys : List D → Option (List Key)
  | [] => some []
  | d :: l => match dKey d, dKeys l with
    | some k, some ks => some (k :: ks)
    | _, _ => none
section
variable {κ : Type} [DecidableEq κ]
def lookK : List κ → List D → κ → Option D
  | x :: ks, v :: vs, k => if x = k then some v else lookK ks vs k
  | _, _, _ => none
def hasK (ks : List κ) (k : κ) : Bool := decide (k ∈ ks)
theorem hasK_iff {ks : List κ} {k : κ} : hasK ks k = true ↔ k ∈ ks := decide_eq_true_iff
def putKs (ks : List κ) (k : κ) : List κ := if k ∈ ks then ks else ks ++ [k]
def putVs (ks : List κ) (vs : List D) (k : κ) (d : D) : List D := if k ∈ ks then List.zipWith (fun x v => if x = k then d else v) ks vs else vs ++ [d]
variable {c : Cfg} {F : Hp}
theorem look_some : ∀ {kvs : List (κ × V)} {vs : List D} {k : κ} {d : D}, Reps c F (kvs.map (·.2)) vs → lookK (kvs.map (·.1)) vs k = some d → ∃ v, valV kvs k = some v ∧ Rep c F v d
  | [], _, _, _, _, h => by cases h
  | p :: r, [], _, _, h, _ => by cases h
  | p :: r, y :: vs, k, d, h, e => by
    cases h with
    | cons a t =>
      have e : (if p.1 = k then some y else lookK (r.map (·.1)) vs k) = some d := e
      by_cases c : p.1 = k
      · rw [if_pos c] at e
        cases e
        exact ⟨_, valV_pos c, a⟩
      · rw [if_neg c] at e
        obtain ⟨v, h1, h2⟩ := look_some t e
        exact ⟨v, by rw [valV_neg c]; exact h1, h2⟩
theorem val_mem (kvs : List (κ × V)) (k : κ) : (valV kvs k).isSome = hasK (kvs.map (·.1)) k := by
  show _ = decide (k ∈ kvs.map (·.1))
  rw [← valV_any k kvs]
  induction kvs with
  | nil => rfl
  | cons p r ih =>
    rw [List.any_cons, ih, List.map_cons]
    by_cases c : p.1 = k
    · rw [decide_eq_true c, Bool.true_or, decide_eq_true (by rw [c]; exact List.mem_cons_self ..)]
    · rw [decide_eq_false c, Bool.false_or]
      congr 1
      rw [List.mem_cons, eq_iff_iff]
      exact ⟨.inr, fun h => h.resolve_left fun z => c z.symm⟩
theorem any_mem (kvs : List (κ × V)) (k : κ) : (kvs.any fun kv => decide (kv.1 = k)) = decide (k ∈ kvs.map (·.1)) := by rw [valV_any, val_mem]; rfl
theorem put_ks (kvs : List (κ × V)) (k : κ) (v : V) : (putK kvs k v).map (·.1) = putKs (kvs.map (·.1)) k := by
  unfold putK putKs
  rw [any_mem]
  by_cases c : k ∈ kvs.map (·.1)
  · rw [if_pos (decide_eq_true c), if_pos c, List.map_map]
    refine List.map_congr_left fun p _ => ?_
    show (if p.1 = k then (p.1, v) else p).1 = p.1
    split <;> rfl
  · rw [if_neg (by rw [decide_eq_false c]; decide), if_neg c, List.map_append]
    rfl
theorem put_map {k : κ} {v : V} {d : D} (hd : Rep c F v d) : ∀ {kvs : List (κ × V)} {vs : List D}, Reps c F (kvs.map (·.2)) vs → Reps c F ((kvs.map fun kv => if kv.1 = k then (kv.1, v) else kv).map (·.2)) (List.zipWith (fun x y => if x = k then d else y) (kvs.map (·.1)) vs)
  | [], _, h => by cases h; exact .nil
  | p :: r, _, h => by
    cases h with
    | cons a t =>
      refine .cons ?_ (put_map hd t)
      show Rep c F (if p.1 = k then (p.1, v) else p).2 (if p.1 = k then d else _)
      split
      · exact hd
      · exact a
theorem put_vs {kvs : List (κ × V)} {vs : List D} {k : κ} {v : V} {d : D} (r : Reps c F (kvs.map (·.2)) vs) (hd : Rep c F v d) : Reps c F ((putK kvs k v).map (·.2)) (putVs (kvs.map (·.1)) vs k d) := by
  unfold putK putVs
  rw [any_mem]
  by_cases c : k ∈ kvs.map (·.1)
  · rw [if_pos (decide_eq_true c), if_pos c]
    exact put_map hd r
  · rw [if_neg (by rw [decide_eq_false c]; decide), if_neg c, List.map_append]
    exact r.app (.one hd)
end
section
variable {c : Cfg} {F : Hp}
theorem key_rep {v : V} {d : D} {k : Key} (r : Rep c F v d) (e : dKey d = some k) : v = kV k := by
  cases r <;> cases e <;> rfl
theorem keys_rep : ∀ {xs : List V} {l : List D} {ks : List Key}, Reps c F xs l → dKeys l = some ks → xs = ks.map kV
  | [], _, _, h, e => by cases h; cases e; rfl
  | x :: xs, _, _, h, e => by
    cases h with
    | @cons _ _ d ds a t =>
      unfold dKeys at e
      cases e1 : dKey d with
      | none => rw [e1] at e; cases e
      | some k =>
        cases e2 : dKeys ds with
        | none => rw [e1, e2] at e; cases e
        | some ks =>
          rw [e1, e2] at e
          cases e
          rw [key_rep a e1, keys_rep t e2]
          rfl
theorem dKeys_ints : ∀ ks : List Int, dKeys (ks.map .int) = some (ks.map .inl)
  | [] => rfl
  | k :: ks => by
    show (match dKey (.int k), dKeys (ks.map .int) with | some k, some ks => some (k :: ks) | _, _ => none) = _
    rw [dKeys_ints ks]
    rfl
end
section
variable {X : Cx} {f : Fm} {W : WX} {e a b o : Expr} {wa wb wo wi w : WE} {pos pos' apos cpos p : Pos} {env : Ev} {μ : Mu} {σ : L2.St} {F H : Hp} {x : Str} {n : En} {Dn : Ends}
theorem RZ.dic {v : V} {r : R} {ks : List Key} {vs : List D} (q : Rel f env μ σ F H) (h : RZ f env σ F v r) (e : r.d = .dic ks vs) : ∃ a kvs, v = .ref a ∧ H a = some (.dK kvs) ∧ ks = kvs.map (·.1) ∧ Reps f.c F (kvs.map (·.2)) vs := by
  have still : Rep f.c F v (.dic ks vs) → ∃ a kvs, v = .ref a ∧ H a = some (.dK kvs) ∧ ks = kvs.map (·.1) ∧ Reps f.c F (kvs.map (·.2)) vs := fun h => by
    cases h with
    | dic s r => exact ⟨_, _, rfl, q.fh _ _ s, rfl, r⟩
  cases r with
  | fz d =>
    subst e
    exact still h
  | fresh k =>
    have h' : Rep f.c F v (R.fresh k).d := h
    rw [e] at h'
    exact still h'
  | bor i k =>
    obtain ⟨h1, h2⟩ := h
    obtain ⟨a, h3, h5, h6, h7, h8⟩ := q.sl i _ h1
    rw [h2] at h3
    cases h3
    cases k with
    | lst l' => cases (show D.lst l' = D.dic ks vs from e)
    | dct _ _ => cases (show D.dct _ _ = D.dic ks vs from e)
    | dic ks' vs' =>
      have e2 : D.dic ks' vs' = D.dic ks vs := e
      cases e2
      obtain ⟨kvs, g1, g2, g3⟩ := h8
      exact ⟨_, kvs, rfl, g1, g2.symm, g3⟩
theorem RZ.dct {v : V} {r : R} {ks : List (List Key)} {vs : List D} (q : Rel f env μ σ F H) (h : RZ f env σ F v r) (e : r.d = .dct ks vs) : ∃ a kvs, v = .ref a ∧ H a = some (.dT kvs) ∧ ks = kvs.map (·.1) ∧ Reps f.c F (kvs.map (·.2)) vs := by
  have still : Rep f.c F v (.dct ks vs) → ∃ a kvs, v = .ref a ∧ H a = some (.dT kvs) ∧ ks = kvs.map (·.1) ∧ Reps f.c F (kvs.map (·.2)) vs := fun h => by
    cases h with
    | dct s r => exact ⟨_, _, rfl, q.fh _ _ s, rfl, r⟩
  cases r with
  | fz d =>
    subst e
    exact still h
  | fresh k =>
    have h' : Rep f.c F v (R.fresh k).d := h
    rw [e] at h'
    exact still h'
  | bor i k =>
    obtain ⟨h1, h2⟩ := h
    obtain ⟨a, h3, h5, h6, h7, h8⟩ := q.sl i _ h1
    rw [h2] at h3
    cases h3
    cases k with
    | lst l' => cases (show D.lst l' = D.dct ks vs from e)
    | dic _ _ => cases (show D.dic _ _ = D.dct ks vs from e)
    | dct ks' vs' =>
      have e2 : D.dct ks' vs' = D.dct ks vs := e
      cases e2
      obtain ⟨kvs, g1, g2, g3⟩ := h8
      exact ⟨_, kvs, rfl, g1, g2.symm, g3⟩
theorem RZ.tupH {v : V} {r : R} {l : List D} (q : Rel f env μ σ F H) (h : RZ f env σ F v r) (e : r.d = .tup l) : ∃ a xs, v = .ref a ∧ H a = some (.tup xs) ∧ Reps f.c F xs l := by
  cases r with
  | fz d =>
    subst e
    have h' : Rep f.c F v (.tup l) := h
    cases h' with
    | tup s r => exact ⟨_, _, rfl, q.fh _ _ s, r⟩
  | fresh k => cases k <;> cases e
  | bor i k => cases k <;> cases e
theorem RZ.key {v : V} {r : R} {k : Key} (h : RZ f env σ F v r) (e : dKey r.d = some k) : v = kV k := by
  cases r with
  | fz d => exact key_rep h e
  | fresh k => cases k <;> cases e
  | bor i k => cases k <;> cases e
/-- {} -/
def wDNew (k : Cont) : WE := fun _ μ Q _ => Q (.fresh k) μ
theorem px_dnewK : PX X f W (.Dict [] [] pos) (wDNew (.dic [] [])) := pe_imp pe_dnewK fun σ H Q h => by
  obtain ⟨env, μ, F, Qp, Ep, rel, hw, k, kx⟩ := h
  exact fun p hp => k (.fresh (.dic [] [])) μ _ F _ (rel.laid (o := .dK []) hp fun ps z => by cases z) (Same.refl _) ⟨p, rfl, rel.bnone hp, rel.bt p hp, rel.mnone hp, rel.notOwn hp, [], upd_same, rfl, .nil⟩ hw
theorem px_dnewT : PX X f W (.Dict [] [] pos) (wDNew (.dct [] [])) := pe_imp pe_dnewT fun σ H Q h => by
  obtain ⟨env, μ, F, Qp, Ep, rel, hw, k, kx⟩ := h
  exact fun p hp => k (.fresh (.dct [] [])) μ _ F _ (rel.laid (o := .dT []) hp fun ps z => by cases z) (Same.refl _) ⟨p, rfl, rel.bnone hp, rel.bt p hp, rel.mnone hp, rel.notOwn hp, [], upd_same, rfl, .nil⟩ hw
/-- d[k] -/
def dDGet (x y : D) (Q : R → Prop) : Prop := match x with
  | .dic ks vs => ∃ k d, dKey y = some k ∧ lookK ks vs k = some d ∧ Q (.fz d)
  | .dct ks vs => ∃ l k d, y = .tup l ∧ dKeys l = some k ∧ lookK ks vs k = some d ∧ Q (.fz d)
  | _ => False
theorem dget_ok {env : Ev} {μ : Mu} {σ : L2.St} {F H : Hp} {r1 r2 : R} {v1 v2 : V} {Q : VK} {Qp : R → Prop} (rel : Rel f env μ σ F H) (z1 : RZ f env σ F v1 r1) (z2 : RZ f env σ F v2 r2) (h : dDGet r1.d r2.d Qp)
    (k : ∀ r v F' H', Rel f env μ σ F' H' → Same F F' → RR f env μ σ F' H' v r → Qp r → Q v H') : ∃ a v, v1 = .ref a ∧ DGet H a v2 (some v) ∧ Q v H := by
  cases e1 : r1.d <;> rw [e1] at h <;> first | exact h.elim | skip
  · obtain ⟨j, d, ej, el, q⟩ := h
    obtain ⟨a, kvs, rfl, g1, rfl, g3⟩ := z1.dic rel e1
    obtain ⟨v, h1, h2⟩ := look_some g3 el
    obtain rfl := z2.key ej
    exact ⟨a, v, rfl, by rw [← h1]; exact DGet.k g1, k (.fz d) v F H rel (Same.refl _) h2 q⟩
  · obtain ⟨l, j, d, ey, ej, el, q⟩ := h
    obtain ⟨a, kvs, rfl, g1, rfl, g3⟩ := z1.dct rel e1
    obtain ⟨v, h1, h2⟩ := look_some g3 el
    obtain ⟨b, xs, rfl, k1, k2⟩ := z2.tupH rel ey
    obtain rfl := keys_rep k2 ej
    exact ⟨a, v, rfl, by rw [← h1]; exact DGet.t g1 k1, k (.fz d) v F H rel (Same.refl _) h2 q⟩
theorem px_dget (hu : X.A.units + 1 < cLine) (ha : PX X f W a wa) (hb : PX X f W b wb) (hs : NoSl b := by intro _ _; rfl) : PX X f W (.Subscript a b pos) (wBin dDGet wa wb) :=
  pe_imp (pe_dget hu ha hb hs) fun σ H Q h => lf2 (g := fun r1 r2 env μ Qp Ep => dDGet r1.d r2.d fun r => Qp r μ) (r := fun x y H Q => ∃ a v, x = .ref a ∧ DGet H a y (some v) ∧ Q v H) (fun env μ σ F H r1 r2 v1 v2 Q Qp Ep rel z1 z2 hgg k kx =>
    dget_ok rel z1 z2 hgg fun r v F' H' rel' e' rr q => k r μ v F' H' rel' e' rr q) σ H Q h
/-- k in d, k not in d -/
def dInK (g : Bool → Bool) (x y : D) (Q : R → Prop) : Prop := match y with
  | .dic ks _ => ∃ k, dKey x = some k ∧ Q (.fz (.bl (g (hasK ks k))))
  | .dct ks _ => ∃ l k, x = .tup l ∧ dKeys l = some k ∧ Q (.fz (.bl (g (hasK ks k))))
  | _ => False
theorem din_ok {g : Bool → Bool} {env : Ev} {μ : Mu} {σ : L2.St} {F H : Hp} {r1 r2 : R} {v1 v2 : V} {Q : VK} {Qp : R → Prop} (rel : Rel f env μ σ F H) (z1 : RZ f env σ F v1 r1) (z2 : RZ f env σ F v2 r2) (h : dInK g r1.d r2.d Qp)
    (k : ∀ r v F' H', Rel f env μ σ F' H' → Same F F' → RR f env μ σ F' H' v r → Qp r → Q v H') : ∃ a o, v2 = .ref a ∧ DGet H a v1 o ∧ Q (.bl (g o.isSome)) H := by
  cases e1 : r2.d <;> rw [e1] at h <;> first | exact h.elim | skip
  · obtain ⟨j, ej, q⟩ := h
    obtain ⟨a, kvs, rfl, g1, rfl, g3⟩ := z2.dic rel e1
    obtain rfl := z1.key ej
    exact ⟨a, _, rfl, DGet.k g1, by rw [val_mem]; exact k (.fz (.bl _)) _ F H rel (Same.refl _) (.bl _) q⟩
  · obtain ⟨l, j, ey, ej, q⟩ := h
    obtain ⟨a, kvs, rfl, g1, rfl, g3⟩ := z2.dct rel e1
    obtain ⟨b, xs, rfl, k1, k2⟩ := z1.tupH rel ey
    obtain rfl := keys_rep k2 ej
    exact ⟨a, _, rfl, DGet.t g1 k1, by rw [val_mem]; exact k (.fz (.bl _)) _ F H rel (Same.refl _) (.bl _) q⟩
theorem din_la {g : Bool → Bool} {σ : L2.St} {H : Hp} {Q : VK} (h : Lf f W (wBin (dInK g) wa wb) σ H Q) : Lf f W wa σ H (fun v1 H1 => Lf f W wb σ H1 (fun v2 H2 => ∃ a o, v2 = .ref a ∧ DGet H2 a v1 o ∧ Q (.bl (g o.isSome)) H2)) :=
  lf2 (g := fun r1 r2 env μ Qp Ep => dInK g r1.d r2.d fun r => Qp r μ) (r := fun y x H Q => ∃ a o, x = .ref a ∧ DGet H a y o ∧ Q (.bl (g o.isSome)) H) (fun env μ σ F H r1 r2 v1 v2 Q Qp Ep rel z1 z2 hgg k kx =>
    din_ok rel z1 z2 hgg fun r v F' H' rel' e' rr q => k r μ v F' H' rel' e' rr q) σ H Q h
theorem px_inK (hu : X.A.units + 1 < cLine) (ha : PX X f W a wa) (hb : PX X f W b wb) (hm : behindInMarks .In b = false := by rfl) : PX X f W (.Compare a [.In] [b] pos) (wBin (dInK id) wa wb) := pe_imp (pe_cmp (pc_din hu ha hb) hm) fun σ H Q h => din_la h
theorem px_notinK (hu : X.A.units + 1 < cLine) (ha : PX X f W a wa) (hb : PX X f W b wb) (hm : behindInMarks .NotIn b = false := by rfl) : PX X f W (.Compare a [.NotIn] [b] pos) (wBin (dInK not) wa wb) := pe_imp (pe_cmp (pc_dnotin hu ha hb) hm) fun σ H Q h => din_la h
theorem pxt_inK (hu : X.A.units + 1 < cLine) (ha : PX X f W a wa) (hb : PX X f W b wb) (hm : behindInMarks .In b = false := by rfl) : PXT X f W (.Compare a [.In] [b] pos) (wVal (wBin (dInK id) wa wb)) := pt_imp (pt_cmp (pc_din hu ha hb) hm) fun σ H Q h => din_la (lt_val h)
theorem pxt_notinK (hu : X.A.units + 1 < cLine) (ha : PX X f W a wa) (hb : PX X f W b wb) (hm : behindInMarks .NotIn b = false := by rfl) : PXT X f W (.Compare a [.NotIn] [b] pos) (wVal (wBin (dInK not) wa wb)) := pt_imp (pt_cmp (pc_dnotin hu ha hb) hm) fun σ H Q h => din_la (lt_val h)
/-- len(d) -/
def dLenK (x : D) (Q : R → Prop) : Prop := match x with
  | .dic ks _ => Q (.fz (.int ks.length))
  | .dct ks _ => Q (.fz (.int ks.length))
  | _ => False
theorem callD_lenK : CallD f (fun xs H Q => (∃ a kvs, xs = [V.ref a] ∧ H a = some (.dK kvs) ∧ Q (.int kvs.length) H) ∨ rLenT xs H Q) dLenK := by
  intro env μ σ F H r v Q Qp rel rz h k
  cases e1 : r.d <;> rw [e1] at h <;> first | exact h.elim | skip
  · obtain ⟨a, kvs, rfl, g1, rfl, g3⟩ := rz.dic rel e1
    exact .inl ⟨a, kvs, rfl, g1, k (.fz _) _ F H rel (Same.refl _) (.int _) (by have h : Qp (.fz (.int ((kvs.map (·.1)).length : Nat))) := h; rw [List.length_map] at h; exact h)⟩
  · obtain ⟨a, kvs, rfl, g1, rfl, g3⟩ := rz.dct rel e1
    exact .inr ⟨a, kvs, rfl, g1, k (.fz _) _ F H rel (Same.refl _) (.int _) (by have h : Qp (.fz (.int ((kvs.map (·.1)).length : Nat))) := h; rw [List.length_map] at h; exact h)⟩
theorem px_lenK (hm : X.mg "len" = none) (ha : PX X f W a wa) (gl : Gl X "len" := by rfl) (hs : starEach [a] X.env = (false, eval a X.env) :: starEach [] X.env := by rfl) (hpl : (backTo pos (starEach [] X.env)).any (·.1) = false := by rfl) :
    PX X f W (.Call (.Name "len" p) [a] [] pos) (wUn dLenK wa) := px_callB (call_lenD.or call_len_dT) callD_lenK gl hm (by decide +kernel) ha (by decide) (by decide) hs hpl
/-- x[k] = e, x a dict that slot i alone holds -/
def cPut (c : Cont) (y d : D) (Q : Cont → Prop) : Prop := match c with
  | .dic ks vs => ∃ k, dKey y = some k ∧ ks.length < sizeLine ∧ Q (.dic (putKs ks k) (putVs ks vs k d))
  | .dct ks vs => ∃ l k, y = .tup l ∧ dKeys l = some k ∧ ks.length < sizeLine ∧ Q (.dct (putKs ks k) (putVs ks vs k d))
  | .lst _ => False
def wSetD (i : Nat) (wi wv : WE) : WS := fun n env μ => wv env μ (fun r μ1 => r.still fun d => match env[i]? with
  | some (some (.own c)) => wi env μ1 (fun r2 μ2 => cPut c r2.d d fun c' => n.nx (env.set i (some (.own c'))) μ2) n.ex
  | _ => False) n.ex
theorem px_setD {i : Nat} {ei : Expr} {pv tpos : Pos} (hu : X.A.units + 1 < cLine) (hN : X.N[i]? = some x) (hv : Vis X.env.scope x) (he : PX X f W e wa) (hi : PX X f W ei wi) (hd : (x == ("__debug__" : Str)) = false := by decide) (hcd : (x == ("__classdict__" : Str)) = false := by decide)
    (hs : swapsWith e (some (.Subscript (.Name x pv) ei tpos)) pos.line X.env = pure false := by rfl) : PXS X f W (.Assign [.Subscript (.Name x pv) ei tpos] e pos) (wSetD i wi wa) :=
  ps_imp (ps_dput hu (pe_var (i := i) hN hv hd hcd) hi he hs) fun Dn σ H h => by
    obtain ⟨env, μ, F, n, rel, hw, ok⟩ := h
    refine ⟨env, μ, F, _, _, rel, hw, fun r1 μ1 v1 F1 H1 rel1 e1 rr1 q1 => ?_, fun x μ2 cls d F2 H2 rel2 e2 xr q2 => ok.ex x env μ2 σ cls d F2 H2 rel2 e2 xr q2⟩
    obtain ⟨F2, rel2, e2, rz1⟩ := settle rel1 rr1
    obtain ⟨s1, q2⟩ := still_ok rz1 q1
    have eA := e1.trans e2
    cases ec : env[i]? with
    | none => rw [ec] at q2; exact q2.elim
    | some oc =>
      cases oc with
      | none => rw [ec] at q2; exact q2.elim
      | some sv =>
        cases sv with
        | val d => rw [ec] at q2; exact q2.elim
        | own c =>
          rw [ec] at q2
          obtain ⟨a, g1, _⟩ := rel2.sl i _ ec
          refine ⟨.ref a, g1, env, μ1, F2, _, _, rel2, q2, fun r3 μ3 v3 F3 H3 rel3 e3 rr3 q3 => ?_, fun x μ2 cls d F2 H2 rel2 e2 xr q2 => ok.ex x env μ2 σ cls d F2 H2 rel2 (eA.trans e2) xr q2⟩
          obtain ⟨F4, rel4, e4, rz3⟩ := settle rel3 rr3
          obtain ⟨a', k1, k2, k3, k4, k5⟩ := rel4.sl i _ ec
          rw [g1] at k1
          cases k1
          have eB := (eA.trans e3).trans e4
          have s4 := Rep.mono (e3.trans e4) _ _ s1
          cases c with
          | lst l => exact q3.elim
          | dic ks vs =>
            obtain ⟨j, ej, hl, q⟩ := q3
            obtain ⟨kvs, m1, rfl, m3⟩ := k5
            obtain rfl := rz3.key ej
            refine ⟨a, _, rfl, DPut.k m1 (by rw [List.length_map] at hl; exact hl), ?_⟩
            exact ok.nx _ μ3 σ F4 _ (rel4.writeOwn (k' := .dic (putKs (kvs.map (·.1)) j) (putVs (kvs.map (·.1)) vs j r1.d)) ec g1 ⟨_, upd_same, put_ks _ _ _, put_vs m3 s4⟩ (fun ps z => by cases z)) eB q
          | dct ks vs =>
            obtain ⟨l, j, ey, ej, hl, q⟩ := q3
            obtain ⟨kvs, m1, rfl, m3⟩ := k5
            obtain ⟨b, xs, rfl, p1, p2⟩ := rz3.tupH rel4 ey
            obtain rfl := keys_rep p2 ej
            refine ⟨a, _, rfl, DPut.t m1 p1 (by rw [List.length_map] at hl; exact hl), ?_⟩
            exact ok.nx _ μ3 σ F4 _ (rel4.writeOwn (k' := .dct (putKs (kvs.map (·.1)) j) (putVs (kvs.map (·.1)) vs j r1.d)) ec g1 ⟨_, upd_same, put_ks _ _ _, put_vs m3 s4⟩ (fun ps z => by cases z)) eB q
end
end PD
set_option Elab.async false
set_option linter.all false
set_option maxRecDepth 100000
set_option maxHeartbeats 4000000
/-! PD57: != of pairs that hold an own object. -/
namespace PD
open PySem PySem.Spec L2
section
open SeqAt AutoSeq1 MeetsSeq MeetsSeq2 MeetsSeq3
variable {prog : Program} {w : World} {A : Around} {R : Result → Shared → Prop}
theorem tuple_neG (l b : Addr) (items items2 : Array Value) (n n2 : Nat) (dd dd2 : Option Addr) (sl sl2 : Array (Option Value)) (hsz : items.size = items2.size) (I : Nat → Shared → Prop)
    (turn : ∀ i (h1 : i < items.size) (h2 : i < items2.size) s, I i s → wpAny (model prog w) A.in1 (eqBool items[i] items2[i]) (fun r s' => r = true ∧ I (i + 1) s') (fun e s' => R (.error e) s') s)
    (fin : ∀ s, I items.size s → R (.ok (.ret (.bool false))) s) {s : Shared} (hl1 : s.heap.get? l = some { cls := .type "tuple", dict := dd, data := .seq items n, slots := sl }) (hb1 : s.heap.get? b = some { cls := .type "tuple", dict := dd2, data := .seq items2 n2, slots := sl2 }) (h : I 0 s) :
    wpAny (model prog w) A.in1 (Builtin.«tuple.__ne__» ⟨[.ref l, .ref b], []⟩) (GQ.FinOf prog w A R) (fun e s' => R (.error e) s') s := by
  have f2 := AutoSeq1.sub_tuple_tuple
  have hZ : (items.toList.zip items2.toList).length = items.size := by simp [hsz]
  have h0 := h
  obtain ⟨hp, g, d, tk, os⟩ := s
  wp_walk using wpAny_loadPart' hl1, wpAny_loadPart' hb1, wpAny_forIn_list _ (fun rest b s' => b.1 = none ∧ ∃ i, rest = (items.toList.zip items2.toList).drop i ∧ i ≤ items.size ∧ I i s') _
  case turn =>
    rintro ⟨y, x⟩ rest b s' ⟨hb', i, hz, hi, hI⟩
    have hlt : i < (items.toList.zip items2.toList).length := by
      rcases Nat.lt_or_ge i (items.toList.zip items2.toList).length with h' | h'
      · exact h'
      · rw [List.drop_of_length_le h'] at hz; cases hz
    have h1 : i < items.size := hZ ▸ hlt
    have h2 : i < items2.size := hsz ▸ h1
    rw [List.drop_eq_getElem_cons hlt] at hz
    injection hz with hyx hrest
    have hy : y = items[i] := by have := congrArg Prod.fst hyx; simpa using this
    have hx : x = items2[i] := by have := congrArg Prod.snd hyx; simpa using this
    subst hy hx
    refine wpAny_bind (wpAny_mono (turn i h1 h2 s' hI) (fun r s2 q2 => ?_) fun _ _ x => x)
    obtain ⟨hr, q2⟩ := q2
    subst hr
    wp_walk
    exact ⟨rfl, i + 1, hrest, h1, q2⟩
  case fin =>
    rintro ⟨b1, b2⟩ s' ⟨hb', i, hz, hi, hI⟩
    simp only at hb'
    subst hb'
    have hge : items.size ≤ i := by
      rcases Nat.lt_or_ge i (items.toList.zip items2.toList).length with h' | h'
      · rw [List.drop_eq_getElem_cons h'] at hz; cases hz
      · exact hZ ▸ h'
    have hi' : i = items.size := by omega
    have hR : R (.ok (.ret (.bool false))) s' := fin s' (hi' ▸ hI)
    wp_walk
    simpa [Builtin.Tuple.tupleCompareSizes, bne, hsz] using hR
  case h =>
    exact ⟨rfl, 0, rfl, Nat.zero_le _, h0⟩
theorem rc_tupNeG {E : Value → Shared → Prop} {s : Shared} {l b : Addr} {items items2 : Array Value} {Q : Value → Shared → Prop} (hsz : items.size = items2.size) (hu : A.units < cLine) (I : Nat → Shared → Prop)
    (hl : s.heap.IsTuple l items) (hb : s.heap.IsTuple b items2)
    (turn : ∀ i (h1 : i < items.size) (h2 : i < items2.size) s, I i s → wpAny (model prog w) A.in1 (eqBool items[i] items2[i]) (fun r s' => r = true ∧ I (i + 1) s') E s)
    (fin : ∀ s, I items.size s → Q (.bool false) s) (h : I 0 s) : wpAny (model prog w) A (richCompare .NotEq (.ref l) (.ref b)) Q E s := by
  obtain ⟨⟨cls, dd, data, sl⟩, ho, hc, n, hd⟩ := id hl
  obtain ⟨⟨cls2, dd2, data2, sl2⟩, ho2, hc2, n2, hd2⟩ := id hb
  simp only at hc hd hc2 hd2
  subst hc hd hc2 hd2
  refine wpAny_richCompare_same_room (op := .NotEq) ⟨_, ho, rfl⟩ ⟨_, ho2, rfl⟩ F.slot_tuple_ne (GQ.call_here F.slot_tuple_ne ⟨_, ho, rfl⟩ F.entry_tuple_ne (F.args_tuple_ne_2 _ _) ?_) hu
  exact tuple_neG (R := wants (fun v s' => v ≠ .notImplemented ∧ Q v s') E) l b items items2 n n2 dd dd2 sl sl2 hsz I turn (fun s' q => ⟨(fun x => nomatch x), fin s' q⟩) ho ho2 h
end
section
variable {X : Cx} {f : Fm} {W : WX} {a b : Expr} {wa wb : WE} {pos p : Pos} {env : Ev} {μ : Mu} {σ : L2.St} {F H : Hp} {cn : Str} {sp : SpD}
def dNeP (cn : Str) (sp : SpD) (x y : D) (μ : Mu) (Q : R → Prop) (E : Exc → Mu → Prop) : Prop := dNe x y Q ∨
  ∃ t ns vs ns' vs', x = .tup [.str t, .ins cn ns vs] ∧ y = .tup [.str t, .ins cn ns' vs'] ∧ sp [.ins cn ns vs, .ins cn ns' vs'] μ (fun r μ3 => r = .fz (.bl true) ∧ μ3 = μ) E ∧ Q (.fz (.bl false))
def wNeP (cn : Str) (sp : SpD) (wa wb : WE) : WE := fun env μ Q E => wa env μ (fun r1 μ1 => wb env μ1 (fun r2 μ2 => dNeP cn sp r1.d r2.d μ2 (fun r => Q r μ2) E) E) E
def neR (X : Cx) (f : Fm) (W : WX) (cn : Str) (sp : SpD) (σ : L2.St) (Q : VK) (x y : V) (H : Hp) : Prop := rNeW X.K x y H Q ∨
  ∃ env μ F t ns vs ns' vs' Ep, Rel f env μ σ F H ∧ Rep f.c F x (.tup [.str t, .ins cn ns vs]) ∧ Rep f.c F y (.tup [.str t, .ins cn ns' vs']) ∧ sp [.ins cn ns vs, .ins cn ns' vs'] μ (fun r μ3 => r = .fz (.bl true) ∧ μ3 = μ) Ep ∧
    (∀ F3 H3, Rel f env μ σ F3 H3 → Same F F3 → Q (.bl false) H3) ∧ (∀ x μ2 cls d F2 H2, Rel f env μ2 σ F2 H2 → Same F F2 → XR f.c F2 H2 x cls d → Ep x μ2 → W cls d σ H2)
theorem rz_tup {v : V} {r : R} {l : List D} (h : RZ f env σ F v r) (e : r.d = .tup l) : Rep f.c F v (.tup l) := by
  cases r with
  | fz d =>
    cases e
    exact h
  | fresh k => cases k <;> cases e
  | bor i k => cases k <;> cases e
theorem neP_la (hK : X.K = f.c.K) (σ : L2.St) (H : Hp) (Q : VK) (hw : Lf f W (wNeP cn sp wa wb) σ H Q) : Lf f W wa σ H (fun v1 H1 => Lf f W wb σ H1 (fun v2 H2 => neR X f W cn sp σ Q v1 v2 H2)) := by
  obtain ⟨env, μ, F, Qp, Ep, rel, hw, k', kx⟩ := hw
  refine ⟨env, μ, F, _, Ep, rel, hw, fun r1 μ1 v1 F1 H1 rel1 e1 rr1 q1 => ?_, kx⟩
  obtain ⟨F1', rel1', e1', rz1⟩ := settle rel1 rr1
  refine ⟨env, μ1, F1', _, Ep, rel1', q1, fun r2 μ2 v2 F2 H2 rel2 e2 rr2 q2 => ?_, fun x μ2 cls d F2 H2 rel2 e2 xr q2 => kx x μ2 cls d F2 H2 rel2 ((e1.trans e1').trans e2) xr q2⟩
  obtain ⟨F2', rel2', e2', rz2⟩ := settle rel2 rr2
  have eA := ((e1.trans e1').trans e2).trans e2'
  have z1 := rz1.mono (e2.trans e2')
  rcases q2 with q2 | ⟨t, ns, vs, ns', vs', x1, x2, hsp, q⟩
  · exact .inl (opD_ne env μ2 σ F2' H2 r1 r2 v1 v2 Q _ hK rel2' z1 rz2 q2 fun r v F' H' rel' e' rr q => k' r μ2 v F' H' rel' (eA.trans e') rr q)
  · exact .inr ⟨env, μ2, F2', t, ns, vs, ns', vs', Ep, rel2', rz_tup z1 x1, rz_tup rz2 x2, hsp, fun F3 H3 rel3 e3 => k' (.fz (.bl false)) μ2 (.bl false) F3 H3 rel3 (eA.trans e3) (.bl _) q,
      fun x μ3 cls d F3 H3 rel3 e3 xr q3 => kx x μ3 cls d F3 H3 rel3 (eA.trans e3) xr q3⟩
theorem neP_at {pins : List (Addr × Obj)} {s2 : Shared} {H2 : Hp} {Q : VK} {x y : V} {v u : Value} (hu : X.A.units + 64 < cLine) (hK : X.K = f.c.K) (o : OwnR X f.c cn sp) (tk : Takes X W) (I2 : L2.Inv X pins σ H2 s2) (rx : RelV x v) (ry : RelV y u) (q : neR X f W cn sp σ Q x y H2) :
    wpAny (model X.prog X.w) X.A (compareOp .NotEq v u) (EP X pins σ Q) X.xe s2 := by
  rcases q with q | ⟨env, μ, F, t, ns, vs, ns', vs', Ep, rel, r1, r2, hsp, q, kx⟩
  · exact (op_ne.or (op_neD hu)) pins s2 σ H2 x y v u Q I2 rx ry q
  obtain ⟨C, g, k, fd, ps, g1, g2, g3, g4, g5, g6, g7, g8⟩ := o.to
  cases r1 with
  | @tup a xs _ ha ra =>
  cases r2 with
  | @tup b ys _ hb rb =>
  cases ra with
  | @cons p0 _ _ _ pa ra =>
  cases ra with
  | @cons p1 _ _ _ pc ra =>
  cases ra
  cases rb with
  | @cons q0 _ _ _ qa rb =>
  cases rb with
  | @cons q1 _ _ _ qc rb =>
  cases rb
  cases pa
  cases qa
  obtain rfl : v = Value.ref a := rx
  obtain rfl : u = Value.ref b := ry
  obtain ⟨its, k1, z1, _⟩ := I2.tuple (SqT.of (rel.fh _ _ ha))
  obtain ⟨its2, k2, z2, _⟩ := I2.tuple (SqT.of (rel.fh _ _ hb))
  cases k1 with
  | @cons _ u0 _ _ m0 k1 =>
  cases k1 with
  | @cons _ u1 _ _ m1 k1 =>
  cases k1
  cases k2 with
  | @cons _ w0 _ _ n0 k2 =>
  cases k2 with
  | @cons _ w1 _ _ n1 k2 =>
  cases k2
  show wpAny _ _ (richCompare .NotEq (.ref a) (.ref b)) _ _ _
  refine rc_tupNeG (by simp) g7.units0 (fun _ s' => ∃ F' H', L2.Inv X pins σ H' s' ∧ Rel f env μ σ F' H' ∧ Same F F') z1 z2 (fun i h1 h2 s' I => ?_) (fun s' ⟨F', H', I', rel', e'⟩ => ⟨.bl false, H', I', rfl, q F' H' rel' e'⟩) ⟨F, H2, I2, rel, Same.refl _⟩
  obtain ⟨F', H', I', rel', e'⟩ := I
  have hi : i = 0 ∨ i = 1 := by simp at h1; omega
  rcases hi with rfl | rfl
  · show wpAny _ _ (eqBool u0 w0) _ _ _
    have z := eqAt_V (A := X.A.in1) (s := s') m0 n0 rfl rfl
    rw [show eqV (V.str t) (V.str t) = true by simp [eqV]] at z
    exact z X.prog X.w X.xe _ ⟨rfl, F', H', I', rel', e'⟩
  · show wpAny _ _ (eqBool u1 w1) _ _ _
    obtain ⟨a1, dx1, C1, fs1, rfl, c1, i1, _, _, _⟩ := ins_at (Rep.mono e' _ _ pc)
    obtain ⟨a2, dx2, C2, fs2, rfl, c2, i2, _, _, _⟩ := ins_at (Rep.mono e' _ _ qc)
    rw [g1] at c1 c2
    cases c1
    cases c2
    obtain rfl : u1 = Value.ref a1 := m1
    obtain rfl : w1 = Value.ref a2 := n1
    by_cases hab : a1 = a2
    · subst hab
      exact SeqAt.EqAt.same (A := X.A.in1) (s := s') (.ref a1) X.prog X.w X.xe _ ⟨rfl, F', H', I', rel', e'⟩
    refine GQ.eqBool_refG hab ?_
    obtain ⟨mA, J, _⟩ := ins_get I'.hok (rel'.fh _ _ i1)
    obtain ⟨od, J, _⟩ := J.look
    obtain ⟨mB, J', _⟩ := ins_get I'.hok (rel'.fh _ _ i2)
    obtain ⟨od', J', _⟩ := J'.look
    obtain ⟨m, hF⟩ := I'.fr
    refine PySem.W.cmp_K (op := .Eq) (tb := .ref C) g7.in1.units0 hF I'.ok.mod.kin J J'.type nf_self (by rw [hK]; exact g4) (by rw [hK]; exact g5) ?_
    have hs : spOf f.c sp [.ref a1, .ref a2] H' (fun v H3 => v = .bl true ∧ ∃ F3, Rel f env μ σ F3 H3 ∧ Same F F3) (L2.WE W σ) :=
      sp_of rel' (.cons (Rep.mono e' _ _ pc) (.cons (Rep.mono e' _ _ qc) .nil)) hsp (fun r μ3 v F3 H3 rel3 e3 rr3 q3 => by
        obtain ⟨rfl, rfl⟩ := q3
        have rb : Rep f.c F3 v (.bl true) := rr3
        cases rb
        exact ⟨rfl, F3, rel3, e'.trans e3⟩) fun x μ3 cls d F3 H3 rel3 e3 xr q3 => kx x μ3 cls d F3 H3 rel3 (e'.trans e3) xr q3
    refine wpAny_mono (run_fnA (E := L2.WE W σ) (us := [.ref a1, .ref a2]) (vs := [.ref a1, .ref a2]) g6 g7.in1 I'.env0.in1 g8 (passAt tk σ) I' (.cons rfl (.cons rfl .nil)) hs) (fun r s' hq => ?_) fun _ _ e => e
    obtain ⟨z, H3, I3, rz, rfl, F3, rel3, e3⟩ := hq
    cases rz
    exact ⟨true, rfl, rfl, F3, H3, I3, rel3, e3⟩
theorem px_neP (hu : X.A.units + 64 < cLine) (hK : X.K = f.c.K) (o : OwnR X f.c cn sp) (tk : Takes X W) (ha : PX X f W a wa) (hb : PX X f W b wb) : PX X f W (.Compare a [.NotEq] [b] pos) (wNeP cn sp wa wb) :=
  ⟨fun pins s σ H Q I h => wpAny_Compare1 (binT ha hb I (neP_la hK σ H Q h) fun v u s2 x y H2 I2 rx ry q => neP_at hu hK o tk I2 rx ry q) (nomark _)⟩
theorem pxt_neP (hu : X.A.units + 64 < cLine) (hK : X.K = f.c.K) (o : OwnR X f.c cn sp) (tk : Takes X W) (ha : PX X f W a wa) (hb : PX X f W b wb) : PXT X f W (.Compare a [.NotEq] [b] pos) (wVal (wNeP cn sp wa wb)) := by
  refine ⟨fun pins s σ H Q I h => ?_⟩
  have h1 := neP_la hK σ H _ (lt_val h)
  refine wpAny_isTrue_Compare1 (thn (ha.run pins s σ H _ I h1) fun v s1 ⟨x, H1, I1, r1, q1⟩ => thn (hb.run pins s1 σ H1 _ I1 q1) fun u s2 ⟨y, H2, I2, r2, q2⟩ =>
    thn (neP_at hu hK o tk I2 r1 r2 q2) fun c s3 ⟨z, H3, I3, r3, k, e, q3⟩ => ?_) (nomark _)
  subst e
  cases r3
  exact wpAny_truthy_bool ⟨H3, I3, q3⟩
end
end PD
set_option Elab.async false
set_option linter.all false
set_option maxRecDepth 100000
set_option maxHeartbeats 4000000
/-! PD58: rows of noughts turned by rules that spread a cell. -/
namespace PD
open PySem PySem.Spec L2
def zRow (m : Int) (M : List Int) (st : Int) : RowV := ⟨m, [0], M, [0], st⟩
/-- cells of one sign, the first and the last one no nought -/
structure Spt (M : List Int) : Prop where
  h0 : M.getD 0 0 ≠ 0
  h1 : M.getD (M.length - 1) 0 ≠ 0
  sg : Signs 2 M
theorem Spt.pos {M : List Int} (s : Spt M) : 0 < M.length := by
  cases M with
  | nil => exact absurd rfl s.h0
  | cons a l => exact Nat.succ_pos _
theorem Spt.v {M : List Int} (s : Spt M) {m st : Int} : rowV m [0] M [0] st = zRow m M st := zero_v s.h0 s.h1
/-- the rule that spreads a cell over so many more -/
def spR (first : Int) (k : Nat) : RuleV := ⟨2, first, k + 1, 0 :: List.replicate (2 ^ (k + 1) - 1) 1⟩
theorem nums_nn {w : List Int} (h : ∀ k ∈ w, 0 ≤ k) : ∀ {a : Int}, 0 ≤ a → a ≤ w.foldl (fun a s => a * 2 + s) a := by
  induction w with
  | nil => intro a ha; exact Int.le_refl a
  | cons b l ih =>
    intro a ha
    have hb := h b (List.mem_cons_self ..)
    have := ih (fun k hk => h k (List.mem_cons_of_mem _ hk)) (a := a * 2 + b) (by omega)
    show a ≤ l.foldl _ (a * 2 + b)
    omega
theorem nums_pos {w : List Int} (h : ∀ k ∈ w, 0 ≤ k) (hx : ∃ k ∈ w, k ≠ 0) : ∀ {a : Int}, 0 ≤ a → 0 < w.foldl (fun a s => a * 2 + s) a := by
  induction w with
  | nil => obtain ⟨k, hk, _⟩ := hx; cases hk
  | cons b l ih =>
    intro a ha
    have hb := h b (List.mem_cons_self ..)
    show 0 < l.foldl _ (a * 2 + b)
    by_cases c : b = 0
    · obtain ⟨k, hk, hn⟩ := hx
      rcases List.mem_cons.mp hk with rfl | hk
      · exact absurd c hn
      · exact ih (fun k hk => h k (List.mem_cons_of_mem _ hk)) ⟨k, hk, hn⟩ (by omega)
    · have := nums_nn (fun k hk => h k (List.mem_cons_of_mem _ hk)) (a := a * 2 + b) (by omega)
      omega
theorem nums_zero {w : List Int} (h : ∀ k ∈ w, k = 0) : nums w 2 = 0 := by
  unfold nums
  induction w with
  | nil => rfl
  | cons b l ih =>
    show l.foldl _ (0 * 2 + b) = 0
    rw [h b (List.mem_cons_self ..)]
    exact ih fun k hk => h k (List.mem_cons_of_mem _ hk)
theorem nums_up {w : List Int} (h : Signs 2 w) : ∀ {a : Int}, 0 ≤ a → w.foldl (fun a s => a * 2 + s) a < (a + 1) * 2 ^ w.length := by
  induction w with
  | nil => intro a ha; show a < (a + 1) * 1; omega
  | cons b l ih =>
    intro a ha
    have hb := h b (List.mem_cons_self ..)
    have z := ih (fun k hk => h k (List.mem_cons_of_mem _ hk)) (a := a * 2 + b) (by omega)
    show l.foldl _ (a * 2 + b) < (a + 1) * 2 ^ (l.length + 1)
    have e : (a + 1) * 2 ^ (l.length + 1) = (a * 2 + 2) * 2 ^ l.length := by
      rw [Int.pow_succ, Int.mul_comm (2 ^ l.length) 2, ← Int.mul_assoc]
      congr 1
      omega
    rw [e]
    refine Int.lt_of_lt_of_le z (Int.mul_le_mul_of_nonneg_right (by omega) (Int.pow_nonneg (by decide)))
theorem spR_zero {first : Int} {k : Nat} {w : List Int} (h : ∀ s ∈ w, s = 0) : tAt (spR first k).table 2 w = 0 := by
  unfold tAt
  rw [nums_zero h]
  rfl
theorem spR_one {first : Int} {k : Nat} {w : List Int} (hl : w.length = k + 1) (h : Signs 2 w) (hx : ∃ s ∈ w, s ≠ 0) : tAt (spR first k).table 2 w = 1 := by
  have p : 0 < nums w 2 := nums_pos (fun k hk => (h k hk).1) hx (by decide)
  have u : nums w 2 < (0 + 1) * 2 ^ w.length := nums_up h (by decide)
  rw [hl] at u
  have u' : (nums w 2).toNat < 2 ^ (k + 1) := by
    have e : ((2 ^ (k + 1) : Nat) : Int) = (0 + 1) * 2 ^ (k + 1) := by push_cast; omega
    omega
  unfold tAt spR
  obtain ⟨n, hn⟩ : ∃ n, (nums w 2).toNat = n + 1 := ⟨(nums w 2).toNat - 1, by omega⟩
  rw [hn]
  show (List.replicate (2 ^ (k + 1) - 1) (1 : Int)).getD n 0 = 1
  rw [List.getD_eq_getElem?_getD, List.getElem?_replicate, if_pos (by omega)]
  rfl
theorem spR_gr {first : Int} {k : Nat} (hk : k ≤ 3) (hf : -3 ≤ first ∧ first ≤ 3) : GR (spR first k) := by
  refine ⟨⟨(show (2:Int) ≤ 2 from by decide), (show (2:Int) ≤ 4 from by decide)⟩, ?_, ⟨by show 1 ≤ k + 1; omega, by show k + 1 ≤ 10; omega⟩, ?_, ?_, ?_⟩
  · intro s hs
    rcases List.mem_cons.mp hs with rfl | hs
    · exact (show (0:Int) ≤ 0 ∧ (0:Int) < 2 from by decide)
    · rw [(List.mem_replicate.mp hs).2]; exact (show (0:Int) ≤ 1 ∧ (1:Int) < 2 from by decide)
  · show (List.replicate (2 ^ (k + 1) - 1) (1 : Int)).length + 1 = 2 ^ (k + 1)
    rw [List.length_replicate]
    have := Nat.pow_pos (a := 2) (n := k + 1) (by decide)
    omega
  · show (List.replicate (2 ^ (k + 1) - 1) (1 : Int)).length + 1 ≤ 1024
    rw [List.length_replicate]
    have := Nat.pow_le_pow_right (n := 2) (by decide) (show k + 1 ≤ 4 by omega)
    omega
  · show -40 ≤ first ∧ first + ((k + 1 : Nat) : Int) ≤ 41
    omega
section
variable {first st : Int} {k : Nat} {M : List Int}
theorem spC_sign (s : Spt M) : ∀ p, 0 ≤ celAt [0] M [0] st p ∧ celAt [0] M [0] st p < 2 := cel_signs (by decide) (by decide) (fun k hk => by rw [List.mem_singleton.mp hk]; decide) s.sg (fun k hk => by rw [List.mem_singleton.mp hk]; decide)
theorem spr_zero {p : Int} (h : p + first + k < st ∨ st + M.length ≤ p + first) : turnC (spR first k) (celAt [0] M [0] st) p = 0 := by
  refine spR_zero fun s hs => ?_
  obtain ⟨i, hi, rfl⟩ := List.mem_map.mp hs
  have := List.mem_range.mp hi
  have e : (spR first k).first = first := rfl
  have e2 : (spR first k).width = k + 1 := rfl
  rw [e2] at this
  rw [e]
  exact cel0_out (by omega)
theorem spr_one (s : Spt M) {p : Int} (hx : ∃ i : Nat, i < k + 1 ∧ celAt [0] M [0] st (p + first + (i : Nat)) ≠ 0) : turnC (spR first k) (celAt [0] M [0] st) p = 1 := by
  refine spR_one (by rw [List.length_map, List.length_range]; rfl) ?_ ?_
  · intro x hx
    obtain ⟨i, _, rfl⟩ := List.mem_map.mp hx
    exact spC_sign s _
  · obtain ⟨i, hi, hn⟩ := hx
    exact ⟨_, List.mem_map.mpr ⟨i, List.mem_range.mpr hi, rfl⟩, hn⟩
theorem spr_once (s : Spt M) : ∃ M', Spt M' ∧ M'.length = M.length + k ∧ onceV (spR first k) (zRow 2 M st) = zRow 2 M' (st - (first + k)) := by
  have pl := s.pos
  have lM : (oM (spR first k) [0] M [0] st).length = M.length + k := by rw [oM_len]; show M.length + (k + 1) - 1 = _; omega
  have lo : oLow (spR first k) st = st - (first + k) := by
    show st - first - ((k + 1 : Nat) : Int) + 1 = _
    omega
  have atM : ∀ i, i < M.length + k → (oM (spR first k) [0] M [0] st).getD i 0 = turnC (spR first k) (celAt [0] M [0] st) (st - (first + k) + (i : Nat)) := fun i hi => by
    unfold oM
    rw [List.getD_eq_getElem?_getD, List.getElem?_map, List.getElem?_range (by show i < M.length + (k + 1) - 1; omega), lo]
    rfl
  have sM : Spt (oM (spR first k) [0] M [0] st) := by
    refine ⟨?_, ?_, ?_⟩
    · rw [atM 0 (by omega), spr_one s ⟨k, by omega, ?_⟩]
      · decide
      · rw [show st - (first + (k : Int)) + ((0 : Nat) : Int) + first + (k : Nat) = st + ((0 : Nat) : Int) by omega, cel0_in pl]
        exact s.h0
    · rw [lM, atM _ (by omega), spr_one s ⟨0, by omega, ?_⟩]
      · decide
      · rw [show st - (first + (k : Int)) + ((M.length + k - 1 : Nat) : Int) + first + ((0 : Nat) : Int) = st + ((M.length - 1 : Nat) : Int) by omega, cel0_in (by omega)]
        exact s.h1
    · intro x hx
      obtain ⟨i, _, rfl⟩ := List.mem_map.mp hx
      unfold turnC
      by_cases c : ∃ q ∈ ((List.range (spR first k).width).map fun s' => celAt [0] M [0] st (oLow (spR first k) st + (i : Nat) + (spR first k).first + (s' : Nat))), q ≠ 0
      · have e := spR_one (first := first) (k := k) (w := (List.range (spR first k).width).map fun s' => celAt [0] M [0] st (oLow (spR first k) st + (i : Nat) + (spR first k).first + (s' : Nat))) (by rw [List.length_map, List.length_range]; rfl) (fun x hx => by
          obtain ⟨j, _, rfl⟩ := List.mem_map.mp hx
          exact spC_sign s _) c
        have e' : tAt (spR first k).table (spR first k).many ((List.range (spR first k).width).map fun s' => celAt [0] M [0] st (oLow (spR first k) st + (i : Nat) + (spR first k).first + (s' : Nat))) = 1 := e
        rw [e']
        decide
      · have e := spR_zero (first := first) (k := k) (w := (List.range (spR first k).width).map fun s' => celAt [0] M [0] st (oLow (spR first k) st + (i : Nat) + (spR first k).first + (s' : Nat))) (fun q hq => Classical.byContradiction fun n => c ⟨q, hq, n⟩)
        have e' : tAt (spR first k).table (spR first k).many ((List.range (spR first k).width).map fun s' => celAt [0] M [0] st (oLow (spR first k) st + (i : Nat) + (spR first k).first + (s' : Nat))) = 0 := e
        rw [e']
        decide
  refine ⟨_, sM, lM, ?_⟩
  have e1 : oL (spR first k) [0] M [0] st = [0] := by
    show [turnC (spR first k) (celAt [0] M [0] st) (oLow (spR first k) st - 1 + ((0 : Nat) : Int))] = [0]
    rw [spr_zero (.inl (by rw [lo]; omega))]
  have e2 : oR (spR first k) [0] M [0] st = [0] := by
    show [turnC (spR first k) (celAt [0] M [0] st) (oLow (spR first k) st + ((M.length + (k + 1) - 1 : Nat) : Int) + ((0 : Nat) : Int))] = [0]
    rw [spr_zero (.inr (by rw [lo]; omega))]
  unfold onceV
  show rowV 2 (oL (spR first k) [0] M [0] st) (oM (spR first k) [0] M [0] st) (oR (spR first k) [0] M [0] st) (oLow (spR first k) st) = _
  rw [e1, e2, lo]
  exact sM.v
theorem zRow_ok {m : Int} (h1 : M.length ≤ 200) (h2 : -100000 ≤ st ∧ st ≤ 100000) : (zRow m M st).ok = true := ok_yes (show 1 ≤ 240 from (by decide)) (show 1 ≤ 240 from (by decide)) h1 h2
theorem zRow_no {m : Int} (h : 200 < M.length ∨ st < -100000) : (zRow m M st).ok = false := ok_no (by rcases h with h | h; exact .inr (.inr (.inl h)); exact .inr (.inr (.inr (.inl h))))
theorem spr_iter (s : Spt M) (hf : 0 ≤ first) (hs : st ≤ 100000) : ∀ n : Nat, (M.length + k * n ≤ 200 ∧ -100000 ≤ st - (first + k) * n → ∃ M', Spt M' ∧ M'.length = M.length + k * n ∧ iterV (spR first k) n (zRow 2 M st) = some (zRow 2 M' (st - (first + k) * n))) ∧
    (n ≠ 0 → ¬ (M.length + k * n ≤ 200 ∧ -100000 ≤ st - (first + k) * n) → (M.length ≤ 200 ∧ -100000 ≤ st) → iterV (spR first k) n (zRow 2 M st) = none)
  | 0 => ⟨fun _ => ⟨M, s, by omega, by rw [show st - (first + (k : Int)) * ((0 : Nat) : Int) = st by rw [show ((0 : Nat) : Int) = 0 from rfl, Int.mul_zero]; omega]; rfl⟩, fun h => absurd rfl h⟩
  | n + 1 => by
    obtain ⟨i1, i2⟩ := spr_iter s hf hs n
    have ek : k * (n + 1) = k * n + k := Nat.mul_succ k n
    have ef : (first + (k : Int)) * ((n + 1 : Nat) : Int) = (first + k) * (n : Nat) + (first + k) := by
      rw [show ((n + 1 : Nat) : Int) = (n : Nat) + 1 by omega, Int.mul_add, Int.mul_one]
    have pz : 0 ≤ (first + (k : Int)) * (n : Nat) := Int.mul_nonneg (by omega) (by omega)
    rw [ek, ef]
    refine ⟨fun h => ?_, fun _ h hb => ?_⟩
    · obtain ⟨M', s', l', e'⟩ := i1 ⟨by omega, by omega⟩
      obtain ⟨M2, s2, l2, e2⟩ := spr_once (first := first) (k := k) (st := st - (first + k) * (n : Nat)) s'
      refine ⟨M2, s2, by omega, ?_⟩
      have e3 : onceV (spR first k) (zRow 2 M' (st - (first + k) * (n : Nat))) = zRow 2 M2 (st - ((first + k) * (n : Nat) + (first + k))) := by
        rw [e2]
        congr 1
        omega
      rw [← e3]
      refine iterV_succ e' ?_
      rw [e3]
      exact zRow_ok (by omega) (by omega)
    · by_cases c : M.length + k * n ≤ 200 ∧ -100000 ≤ st - (first + k) * (n : Nat)
      · obtain ⟨M', s', l', e'⟩ := i1 c
        obtain ⟨M2, s2, l2, e2⟩ := spr_once (first := first) (k := k) (st := st - (first + k) * (n : Nat)) s'
        refine iterV_fail e' ?_
        rw [e2]
        exact zRow_no (by omega)
      · by_cases z : n = 0
        · subst z
          exact absurd ⟨by omega, by rw [show (first + (k : Int)) * ((0 : Nat) : Int) = 0 by rw [show ((0 : Nat) : Int) = 0 from rfl, Int.mul_zero]]; omega⟩ c
        · exact iterV_none (i2 z c hb) (Nat.le_succ n)
end
end PD
set_option Elab.async false
set_option linter.all false
set_option maxRecDepth 100000
set_option maxHeartbeats 2000000
/-! PD59: setdefault, one-pair displays, len(set(..)), in a list of tuples. -/
namespace L2
open PySem PySem.Spec PyProof.Rows
section
variable {X : Cx} {pins : List (Addr × Obj)} {σ : St} {H : Hp} {s : Shared} {a b : Addr} {u r : Value} {d : V} {k : List Key} {A : Around} {E : Value → Shared → Prop}
/-- d.setdefault(k, x), the keys tuples -/
theorem d_setdT {kvs : List (List Key × V)} {Q : Value → Shared → Prop} (hu : A.units + 1 < cLine) (I : Inv X pins σ H s) (e : H a = some (.dT kvs)) (eb : H b = some (.tup (k.map kV))) (rd : RelV d r) (hl : kvs.length < sizeLine)
    (h1 : ∀ v, valV kvs k = some v → ∀ (w' : Value) (s' : Shared), Inv X pins σ H s' → RelV v w' → Q w' s') (h2 : valV kvs k = none → ∀ (w' : Value) (s' : Shared), Inv X pins σ (upd H a (.dT (putK kvs k d))) s' → RelV d w' → Q w' s') :
    wpAny (model X.prog X.w) A (call (.builtin "dict.setdefault") [.ref a, .ref b, r]) Q E s := by
  obtain ⟨z, hd, xs, rel, dd⟩ := dt_of I.hok e
  have hz : xs.length ≤ sizeLine := by rw [← Paired.length rel]; exact z
  have q := rel.val k
  refine call_setdefault_heap (hsz := hz) (knd := tupleKind (mixKind X.prog X.w)) (tupleKind_room_in1 hu) (key_of I.hok eb) hd dd (fun p hp => ?_) fun hn h' dd' hs => ?_
  · rw [hp] at q
    cases q0 : valV kvs k with
    | none =>
      rw [q0] at q
      exact (show False from q).elim
    | some v0 =>
      rw [q0] at q
      exact h1 v0 q0 _ _ (I.tok _) q
  · rw [hn] at q
    cases q0 : valV kvs k with
    | some v0 =>
      rw [q0] at q
      exact (show False from q).elim
    | none =>
      have hl2 : (putK kvs k d).length ≤ sizeLine := by have := length_putK kvs k d; omega
      obtain ⟨o, es, ep, hq, g2, g3, g4, _, g5⟩ := dd'
      refine h2 q0 _ _ (d_write I (by rw [e]; exact True.intro) hs ⟨o, hq⟩ ⟨hl2, hd, _, (rel.put k eb rd).keeps fun c ys ec => ?_, o, es, ep, hq, g2, g3, g4, g5⟩) rd
      rw [upd_ne (ne_of ec e (fun z => nomatch z))]
      exact ec
end
def tDSetd2 (td ty tx : TE) : TE := fun σ H Q => td σ H fun x H1 => ∃ a, x = .ref a ∧ IsD H1 a ∧ ty σ H1 fun y H2 => tx σ H2 fun z H3 =>
  (∃ (kvs : List (Key × V)) (k : Key), H3 a = some (.dK kvs) ∧ y = kV k ∧ kvs.length < sizeLine ∧ (∀ v, valV kvs k = some v → Q v H3) ∧ (valV kvs k = none → Q z (upd H3 a (.dK (putK kvs k z))))) ∨
  ∃ (kvs : List (List Key × V)) (k : List Key) (b : Addr), H3 a = some (.dT kvs) ∧ y = .ref b ∧ H3 b = some (.tup (k.map kV)) ∧ kvs.length < sizeLine ∧ (∀ v, valV kvs k = some v → Q v H3) ∧ (valV kvs k = none → Q z (upd H3 a (.dT (putK kvs k z))))
section
variable {X : Cx} {o e f : Expr} {td ty tx : TE} {apos cpos : Pos}
theorem pe_dsetd2 (hu : X.A.units + 1 < cLine) (ho : PE X o td) (he : PE X e ty) (hf : PE X f tx) (m : M2 X o "setdefault" apos e f cpos) : PE X (.Call (.Attribute o "setdefault" apos) [e, f] [] cpos) (tDSetd2 td ty tx) := by
  refine ⟨fun pins s σ H Q I h => ?_⟩
  refine wpAny_Call_method m.base m.few m.line PySem.F.plainAttrs_dict PySem.F.slot_dict_setdefault PySem.F.type_dict_setdefault (thn (ho.run pins s σ H _ I h) fun u s1 ⟨x, H1, I1, rx, a, ex, d, q1⟩ => ?_)
  subst ex
  obtain rfl : u = Value.ref a := rx
  obtain ⟨t1, t2, _⟩ := isD_at I1 d
  refine ⟨t1, t2, ?_⟩
  rw [m.trees]
  refine Calls.callWith_builtin rfl (Calls.evalArgs_plain (Calls.spliced_cons (thn (he.run pins s1 σ H1 _ I1 q1) fun iv s2 ⟨y, H2, I2, ry, q2⟩ =>
    Calls.spliced_cons (thn (hf.run pins s2 σ H2 _ I2 q2) fun fv s3 ⟨z, H3, I3, rz, q⟩ => Calls.spliced_nil ?_))))
  rcases q with ⟨kvs, k, ea, ey, hl, q3, q4⟩ | ⟨kvs, k, b, ea, ey, eb, hl, q3, q4⟩
  · subst ey
    exact d_setd I3 ea ry rz hl (fun v hv w' s4 I4 rw' => ⟨v, _, I4, rw', q3 v hv⟩) fun hn w' s4 I4 rw' => ⟨z, _, I4, rw', q4 hn⟩
  · subst ey
    obtain rfl : iv = Value.ref b := ry
    exact d_setdT hu I3 ea eb rz hl (fun v hv w' s4 I4 rw' => ⟨v, _, I4, rw', q3 v hv⟩) fun hn w' s4 I4 rw' => ⟨z, _, I4, rw', q4 hn⟩
end
/-! ### len(set(xs)), ints -/
theorem firstMet_set (ns : List Int) : ∀ i, i ≤ ns.length → (firstMet (fun i => ns.getD i 0) i).Nodup ∧ ∀ k, k ∈ firstMet (fun i => ns.getD i 0) i ↔ k ∈ ns.take i
  | 0, _ => ⟨List.nodup_nil, fun k => by rw [firstMet_zero]; simp⟩
  | i + 1, hi => by
    obtain ⟨n, m⟩ := firstMet_set ns i (by omega)
    have hlt : i < ns.length := hi
    have e1 : ns.getD i 0 = ns[i] := by rw [List.getD_eq_getElem?_getD, List.getElem?_eq_getElem hlt]; rfl
    have e2 : ns.take (i + 1) = ns.take i ++ [ns[i]] := by rw [List.take_add_one, List.getElem?_eq_getElem hlt]; rfl
    rw [firstMet_succ]
    unfold step_dedup
    rw [e1, e2]
    by_cases c : (firstMet (fun i => ns.getD i 0) i).any (· == ns[i]) = true
    · rw [if_pos c]
      refine ⟨n, fun k => ?_⟩
      rw [m, List.mem_append, List.mem_singleton]
      refine ⟨.inl, fun h => h.elim id fun z => ?_⟩
      obtain ⟨y, hy, ey⟩ := List.any_eq_true.mp c
      rw [z, ← beq_iff_eq.mp ey]
      exact (m y).mp hy
    · rw [if_neg c]
      refine ⟨?_, fun k => by rw [List.mem_append, List.mem_append, m]⟩
      rw [List.nodup_append]
      refine ⟨n, by simp, fun a ha b hb => ?_⟩
      rw [List.mem_singleton.mp hb]
      intro z
      exact c (List.any_eq_true.mpr ⟨a, ha, beq_iff_eq.mpr z⟩)
theorem nodup_len {a b : List Int} (ha : a.Nodup) (hb : b.Nodup) (h : ∀ k, k ∈ a ↔ k ∈ b) : a.length = b.length := by
  have le : ∀ {a b : List Int}, a.Nodup → (∀ k, k ∈ a → k ∈ b) → a.length ≤ b.length := by
    intro a
    induction a with
    | nil => intro b _ _; exact Nat.zero_le _
    | cons x a ih =>
      intro b hn hs
      have hx := hs x (List.mem_cons_self ..)
      have hn' := List.nodup_cons.mp hn
      have := ih (b := b.erase x) hn'.2 fun k hk => (List.mem_erase_of_ne (fun z => hn'.1 (by rw [← z]; exact hk))).mpr (hs k (List.mem_cons_of_mem _ hk))
      rw [List.length_erase_of_mem hx] at this
      have p := List.length_pos_of_mem hx
      rw [List.length_cons]
      omega
  exact Nat.le_antisymm (le ha fun k hk => (h k).mp hk) (le hb fun k hk => (h k).mpr hk)
/-- so many different ones -/
def Dist (ks : List Int) (n : Nat) : Prop := ∀ out : List Int, out.Nodup → (∀ k, k ∈ out ↔ k ∈ ks) → n = out.length
def tLenSetA (K : PySem.W.Frag) (ta : TE) : TE := fun σ H Q => ta σ H fun x H1 => ∃ (l : Addr) (ns : List Int), x = .ref l ∧ (SqL K H1 l (ns.map V.int) ∨ SqT K H1 l (ns.map V.int)) ∧ ns.length ≤ 4000 ∧ ∀ n : Nat, Dist ns n → Q (.int n) H1
theorem pe_lenSetA {X : Cx} {a : Expr} {ta : TE} {p p2 q pos : Pos} (hc : X.calm = true) (hg : Gl X "len") (hm : X.mg "len" = none) (hg2 : Gl X "set") (hm2 : X.mg "set" = none) (ha : PE X a ta)
    (na : starEach [a] X.env = (false, eval a X.env) :: starEach [] X.env := by rfl) : PE X (.Call (.Name "len" p) [.Call (.Name "set" p2) [a] [] q] [] pos) (tLenSetA X.K ta) := by
  refine ⟨fun pins s σ H Q I h => ?_⟩
  refine Call_ (ld_blt I hg hm boot_len ?_)
  refine PyProof.Rows.callWith_builtin1 (PyProof.Rows.args_cons ?_ rfl) rfl rfl
  refine Call_ (ld_blt I hg2 hm2 boot_set ?_)
  refine PyProof.Rows.callWith_type1 (PyProof.Rows.args_cons (thn (ha.run pins s σ H _ I h) fun v s1 ⟨x, H1, I1, r1, q1⟩ => PyProof.Rows.args_nil ?_) na) na rfl
  obtain ⟨l, ns, rfl, hq, hl, q1⟩ := q1
  cases r1
  rcases hq with hq | hq
  · obtain ⟨its, r, pl, hz⟩ := I1.list hq
    have hlen : its.toArray.size = ns.length := by rw [List.size_toArray, ← r.length, List.length_map]
    refine call_set_list (I1.ok.hd hc) pl.isList (ns := ns) (by simpa using RZ.intsAre_vals r) (by rw [hlen]; unfold scanBound; omega) fun h' tk hS hk => ?_
    refine PyProof.Rows.args_nil ?_
    rw [hlen] at hS
    have hle := firstMet_length_le (fun i => ns.getD i 0) ns.length
    have hd : Dist ns (firstMet (fun i => ns.getD i 0) ns.length).length := fun out nd hm => by
      obtain ⟨n, m⟩ := firstMet_set ns ns.length (Nat.le_refl _)
      exact nodup_len n nd fun k => by rw [m, List.take_length, hm]
    obtain ⟨o, es, ep, t, ho, hex, hdt, _, _, _, hf, hn⟩ := hS
    have I2 : Inv X pins σ H1 { s1 with heap := h', toks := tk } := I1.kept fun b o e => hk b o (Heap.lt_size e) e
    exact call_len_set ho hex hdt hf (by rw [hn] <;> omega) ⟨.int (firstMet (fun i => ns.getD i 0) ns.length).length, H1, I2.tok _, ⟨_, by rw [hn]⟩, q1 _ hd⟩
  · obtain ⟨its, r, pl, hz⟩ := I1.tuple hq
    refine call_set_tupI ns (I1.ok.hd hc) pl (by simpa using RZ.intsAre_vals r) (by unfold scanBound; omega) fun h' tk c hS hcl hk => ?_
    refine PyProof.Rows.args_nil ?_
    obtain ⟨o, es, ep, t, ho, hex, hdt, _, nd, mem, _, hf, hn, _⟩ := hS
    have hd : Dist ns c := fun out nd' hm => by
      rw [← hn, ← Array.length_toList, ← List.length_map (f := keyOf)]
      exact nodup_len nd nd' fun k => by rw [hm, ← mem k]; exact decide_eq_true_iff
    have I2 : Inv X pins σ H1 { s1 with heap := h', toks := tk } := I1.kept fun b o e => hk b o e
    exact call_len_set ho hex hdt hf (by rw [hn] <;> omega) ⟨.int c, H1, I2.tok _, ⟨_, by rw [hn]⟩, q1 _ hd⟩
end L2
set_option Elab.async false
set_option linter.all false
set_option maxRecDepth 100000
set_option maxHeartbeats 2000000
/-! PD60: setdefault, one-pair displays, len(set(..)), in a list: the layer's rules. -/
namespace PD
open PySem PySem.Spec L2
theorem envSame {α : Type} {l : List α} {i : Nat} {x : α} (h : l[i]? = some x) : l.set i x = l := by
  apply List.ext_getElem?
  intro j
  rw [List.getElem?_set]
  split
  · rename_i e
    subst e
    rw [h]
    split
    · rfl
    · rename_i n
      rw [List.getElem?_eq_none (by omega)] at h
      cases h
  · rfl
section
variable {X : Cx} {f : Fm} {W : WX} {e a b o : Expr} {wa wb wo wi w : WE} {pos pos' apos cpos p p2 : Pos} {env : Ev} {μ : Mu} {σ : L2.St} {F H : Hp} {x : Str} {n : En} {Dn : Ends}
/-- x.setdefault(k, e), x a dict that slot i alone holds -/
def cSetd (c : Cont) (y d : D) (Q : Cont → Prop) : Prop := match c with
  | .dic ks vs => ∃ k, dKey y = some k ∧ ks.length < sizeLine ∧ (k ∈ ks → Q (.dic ks vs)) ∧ (k ∉ ks → Q (.dic (ks ++ [k]) (vs ++ [d])))
  | .dct ks vs => ∃ l k, y = .tup l ∧ dKeys l = some k ∧ ks.length < sizeLine ∧ (k ∈ ks → Q (.dct ks vs)) ∧ (k ∉ ks → Q (.dct (ks ++ [k]) (vs ++ [d])))
  | .lst _ => False
def isDc : Cont → Prop
  | .lst _ => False
  | _ => True
def wSetdD (i : Nat) (wk wv : WE) : WS := fun n env μ => (∃ c, env[i]? = some (some (.own c)) ∧ isDc c) ∧ wk env μ (fun rk μ1 => wv env μ1 (fun r μ2 => r.still fun d => match env[i]? with
  | some (some (.own c)) => cSetd c rk.d d fun c' => n.nx (env.set i (some (.own c'))) μ2
  | _ => False) n.ex) n.ex
theorem putKs_new {κ : Type} [DecidableEq κ] {ks : List κ} {k : κ} (h : k ∉ ks) : putKs ks k = ks ++ [k] := if_neg h
theorem putVs_new {κ : Type} [DecidableEq κ] {ks : List κ} {vs : List D} {k : κ} {d : D} (h : k ∉ ks) : putVs ks vs k d = vs ++ [d] := if_neg h
theorem val_in {κ : Type} [DecidableEq κ] {kvs : List (κ × V)} {k : κ} {v : V} (h : valV kvs k = some v) : k ∈ kvs.map (·.1) := by
  have e := val_mem kvs k
  rw [h] at e
  exact hasK_iff.mp e.symm
theorem val_out {κ : Type} [DecidableEq κ] {kvs : List (κ × V)} {k : κ} (h : valV kvs k = none) : k ∉ kvs.map (·.1) := fun z => by
  have e := val_mem kvs k
  rw [h, hasK_iff.mpr z] at e
  cases e
theorem px_setdD {i : Nat} {ek : Expr} {pv : Pos} (hu : X.A.units + 1 < cLine) (hN : X.N[i]? = some x) (hv : Vis X.env.scope x) (hk : PX X f W ek wi) (he : PX X f W e wa) (hd : (x == ("__debug__" : Str)) = false := by decide) (hcd : (x == ("__classdict__" : Str)) = false := by decide)
    (m : M2 X (.Name x pv) "setdefault" apos ek e cpos := by exact ⟨rfl, rfl, rfl, rfl⟩) (hs : swapsWith (.Call (.Attribute (.Name x pv) "setdefault" apos) [ek, e] [] cpos) none pos.line X.env = pure false := by rfl) :
    PXS X f W (.Expr (.Call (.Attribute (.Name x pv) "setdefault" apos) [ek, e] [] cpos) pos) (wSetdD i wi wa) :=
  ps_imp (ps_expr (pe_dsetd2 hu (pe_var (i := i) hN hv hd hcd) hk he m) hs) fun Dn σ H h => by
    obtain ⟨env, μ, F, n, rel, ⟨⟨c0, ec0, dc0⟩, hw⟩, ok⟩ := h
    obtain ⟨a, g1, _, _, _, g5⟩ := rel.sl i _ ec0
    refine ⟨.ref a, g1, a, rfl, ?_, env, μ, F, _, _, rel, hw, fun r1 μ1 v1 F1 H1 rel1 e1 rr1 q1 => ?_, fun x μ2 cls d F2 H2 rel2 e2 xr q2 => ok.ex x env μ2 σ cls d F2 H2 rel2 e2 xr q2⟩
    · cases c0 with
      | lst l => exact dc0.elim
      | dic ks vs =>
        obtain ⟨kvs, k1, _⟩ := g5
        exact .inl ⟨kvs, .inl k1⟩
      | dct ks vs =>
        obtain ⟨kvs, k1, _⟩ := g5
        exact .inr ⟨kvs, .inl k1⟩
    obtain ⟨F2, rel2, e2, rz1⟩ := settle rel1 rr1
    have eA := e1.trans e2
    refine ⟨env, μ1, F2, _, _, rel2, q1, fun r3 μ3 v3 F3 H3 rel3 e3 rr3 q3 => ?_, fun x μ2 cls d F2 H2 rel2 e2 xr q2 => ok.ex x env μ2 σ cls d F2 H2 rel2 (eA.trans e2) xr q2⟩
    obtain ⟨F4, rel4, e4, rz3⟩ := settle rel3 rr3
    obtain ⟨s3, q4⟩ := still_ok rz3 q3
    have z1 := rz1.mono (e3.trans e4)
    have eB := (eA.trans e3).trans e4
    obtain ⟨a', k1, k2, k3, k4, k5⟩ := rel4.sl i _ ec0
    rw [g1] at k1
    cases k1
    rw [ec0] at q4
    cases c0 with
    | lst l => exact dc0.elim
    | dic ks vs =>
      obtain ⟨j, ej, hl, y1, y2⟩ := q4
      obtain ⟨kvs, m1, rfl, m3⟩ := k5
      obtain rfl := z1.key ej
      refine .inl ⟨kvs, j, m1, rfl, by rw [List.length_map] at hl; exact hl, fun v hv => ?_, fun hv => ?_⟩
      · have q := y1 (val_in hv)
        dsimp only at q
        rw [envSame ec0] at q
        exact ok.nx _ μ3 σ F4 _ rel4 eB q
      · have hn := val_out hv
        have p1 := put_ks kvs j v3
        have p2 := put_vs (k := j) m3 s3
        rw [putKs_new hn] at p1
        rw [putVs_new hn] at p2
        exact ok.nx _ μ3 σ F4 _ (rel4.writeOwn (k' := .dic (kvs.map (·.1) ++ [j]) (vs ++ [r3.d])) ec0 g1 ⟨_, upd_same, p1, p2⟩ (fun ps z => by cases z)) eB (y2 hn)
    | dct ks vs =>
      obtain ⟨l, j, ey, ej, hl, y1, y2⟩ := q4
      obtain ⟨kvs, m1, rfl, m3⟩ := k5
      obtain ⟨b, xs, rfl, p1, p2⟩ := z1.tupH rel4 ey
      obtain rfl := keys_rep p2 ej
      refine .inr ⟨kvs, j, b, m1, rfl, p1, by rw [List.length_map] at hl; exact hl, fun v hv => ?_, fun hv => ?_⟩
      · have q := y1 (val_in hv)
        dsimp only at q
        rw [envSame ec0] at q
        exact ok.nx _ μ3 σ F4 _ rel4 eB q
      · have hn := val_out hv
        have p1 := put_ks kvs j v3
        have p2 := put_vs (k := j) m3 s3
        rw [putKs_new hn] at p1
        rw [putVs_new hn] at p2
        exact ok.nx _ μ3 σ F4 _ (rel4.writeOwn (k' := .dct (kvs.map (·.1) ++ [j]) (vs ++ [r3.d])) ec0 g1 ⟨_, upd_same, p1, p2⟩ (fun ps z => by cases z)) eB (y2 hn)
/-! ### len(set(xs)) -/
def dLenSet (y : D) (Q : R → Prop) : Prop := ∃ ks : List Int, y.seq = some (ks.map .int) ∧ ks.length ≤ 4000 ∧ ∀ n : Nat, Dist ks n → Q (.fz (.int n))
theorem seq_either {y : D} {l : List D} (h : y.seq = some l) : y = .tup l ∨ y = .lst l := by
  cases y <;> cases h
  · exact .inl rfl
  · exact .inr rfl
theorem px_lenSet {q : Pos} (hK : X.K = f.c.K) (hc : X.calm = true) (hm : X.mg "len" = none) (hm2 : X.mg "set" = none) (ha : PX X f W a wa) (hg : Gl X "len" := by rfl) (hg2 : Gl X "set" := by rfl)
    (na : starEach [a] X.env = (false, eval a X.env) :: starEach [] X.env := by rfl) : PX X f W (.Call (.Name "len" p) [.Call (.Name "set" p2) [a] [] q] [] pos) (wUn dLenSet wa) :=
  pe_imp (pe_lenSetA hc hg hm hg2 hm2 ha na) fun σ H Q h =>
    lf1 (g := fun r0 env μ Qp Ep => dLenSet r0.d fun r => Qp r μ) (r := fun v H1 Q => ∃ (l : Addr) (ns : List Int), v = .ref l ∧ (SqL X.K H1 l (ns.map V.int) ∨ SqT X.K H1 l (ns.map V.int)) ∧ ns.length ≤ 4000 ∧ ∀ n : Nat, Dist ns n → Q (.int n) H1)
      (fun env μ σ F H r0 v Q Qp Ep rel rr hgg k kx => by
        obtain ⟨F2, rel2, e2, rz⟩ := settle rel rr
        obtain ⟨ks, es, hl, q⟩ := hgg
        rcases seq_either es with e | e
        · obtain ⟨l, xs, rfl, g1, g2⟩ := rz.tup rel2 e
          obtain rfl := reps_ints g2
          exact ⟨l, ks, rfl, .inr (by rw [hK]; exact g1), hl, fun n hn => k (.fz _) μ _ F2 H rel2 e2 (.int _) (q n hn)⟩
        · obtain ⟨l, xs, rfl, g1, g2⟩ := rz.lst rel2 e
          obtain rfl := reps_ints g2
          exact ⟨l, ks, rfl, .inl (SqL.of g1), hl, fun n hn => k (.fz _) μ _ F2 H rel2 e2 (.int _) (q n hn)⟩) σ H Q h
/-! ### in a list -/
def dInL (g : Bool → Bool) (x y : D) (Q : R → Prop) : Prop := match y with
  | .lst l => eqok x ∧ eqok (.lst l) ∧ Q (.fz (.bl (g (l.any fun z => eqv z x))))
  | _ => False
theorem any_pys (g : PyData → Bool) : ∀ l : List D, (pys l).any g = l.any fun z => g z.py
  | [] => rfl
  | d :: l => by
    show (g d.py || (pys l).any g) = _
    rw [any_pys g l]
    rfl
theorem opD_inL : OpD X f (rInD X.K) (dInL id) := by
  intro env μ σ F H r1 r2 v1 v2 Q Qp hK rel z1 z2 h k
  cases e2 : r2.d <;> rw [e2] at h <;> first | exact h.elim | skip
  rename_i l
  obtain ⟨o1, o2, q⟩ := h
  have d2 := rz_dp rel z2 (by rw [e2]; exact o2.1)
  rw [e2] at d2
  refine ⟨r1.d.py, pys l, by rw [hK]; exact rz_dp rel z1 o1.1, by rw [hK]; exact d2, o1.2, o2.2, ?_⟩
  rw [any_pys]
  exact k (.fz (.bl _)) _ F H rel (Same.refl _) (.bl _) q
theorem opD_notinL : OpD X f (rNotInD X.K) (dInL not) := by
  intro env μ σ F H r1 r2 v1 v2 Q Qp hK rel z1 z2 h k
  cases e2 : r2.d <;> rw [e2] at h <;> first | exact h.elim | skip
  rename_i l
  obtain ⟨o1, o2, q⟩ := h
  have d2 := rz_dp rel z2 (by rw [e2]; exact o2.1)
  rw [e2] at d2
  refine ⟨r1.d.py, pys l, by rw [hK]; exact rz_dp rel z1 o1.1, by rw [hK]; exact d2, o1.2, o2.2, ?_⟩
  rw [any_pys]
  exact k (.fz (.bl _)) _ F H rel (Same.refl _) (.bl _) q
theorem px_inL (hu : X.A.units + 65 < cLine) (hK : X.K = f.c.K) (ha : PX X f W a wa) (hb : PX X f W b wb) (hm : behindInMarks .In b = false := by rfl) : PX X f W (.Compare a [.In] [b] pos) (wBin (dInL id) wa wb) := px_cmp (op_inD hu) opD_inL hK ha hb hm
theorem px_notinL (hu : X.A.units + 65 < cLine) (hK : X.K = f.c.K) (ha : PX X f W a wa) (hb : PX X f W b wb) (hm : behindInMarks .NotIn b = false := by rfl) : PX X f W (.Compare a [.NotIn] [b] pos) (wBin (dInL not) wa wb) := px_cmp (op_notInD hu) opD_notinL hK ha hb hm
theorem pxt_inL (hu : X.A.units + 65 < cLine) (hK : X.K = f.c.K) (ha : PX X f W a wa) (hb : PX X f W b wb) (hm : behindInMarks .In b = false := by rfl) : PXT X f W (.Compare a [.In] [b] pos) (wVal (wBin (dInL id) wa wb)) := pxt_cmp (op_inD hu) opD_inL hK ha hb hm
theorem pxt_notinL (hu : X.A.units + 65 < cLine) (hK : X.K = f.c.K) (ha : PX X f W a wa) (hb : PX X f W b wb) (hm : behindInMarks .NotIn b = false := by rfl) : PXT X f W (.Compare a [.NotIn] [b] pos) (wVal (wBin (dInL not) wa wb)) := pxt_cmp (op_notInD hu) opD_notinL hK ha hb hm
/-! ### {k: e} -/
def wDisp1 (wk wv : WE) : WE := fun env μ Q E => ∀ p, μ p = none → wk env (muSet μ p (.dbox [] [])) (fun rk μ1 => μ1 = muSet μ p (.dbox [] []) ∧ wv env μ1 (fun r μ2 => μ2 = muSet μ p (.dbox [] []) ∧ r.still fun d => ∃ k, dKey rk.d = some k ∧ Q (.fresh (.dic [k] [d])) μ) fun _ _ => False) fun _ _ => False
theorem px_disp1 (hk : PX X f W e wi) (hv : PX X f W a wa) : PX X f W (.Dict [some e] [a] pos) (wDisp1 wi wa) :=
  pe_imp (pe_disp (pps_cons hk hv pps_nil) rfl rfl (fun z => by cases z) (show 1 ≤ 15 from by decide)) fun σ H Q h => by
    obtain ⟨env, μ, F, Qp, Ep, rel, hw, k', kx⟩ := h
    intro p hp
    have np := rel.bnone hp
    have nb := rel.bt p hp
    have nm := rel.mnone hp
    have rel0 := rel.laid (o := .dK []) hp fun ps z => by cases z
    have relS := rel0.share (m := .dbox [] []) np nb nm (rel.notOwn hp) ⟨[], upd_same, rfl, .nil⟩
    refine ⟨env, _, F, _, _, relS, hw p nm, fun rk μ1 v1 F1 H1 rel1 e1 rr1 q1 => ?_, fun x μ2 cls d F2 H2 rel2 e2 xr q2 => q2.elim⟩
    obtain ⟨rfl, q1⟩ := q1
    obtain ⟨F2, rel2, e2, rz1⟩ := settle rel1 rr1
    refine ⟨env, _, F2, _, _, rel2, q1, fun r3 μ3 v3 F3 H3 rel3 e3 rr3 q3 => ?_, fun x μ2 cls d F2 H2 rel2 e2 xr q2 => q2.elim⟩
    obtain ⟨rfl, q3⟩ := q3
    obtain ⟨F4, rel4, e4, rz3⟩ := settle rel3 rr3
    obtain ⟨s3, k, ek, q⟩ := still_ok rz3 q3
    have z1 := rz1.mono (e3.trans e4)
    obtain rfl := z1.key ek
    obtain ⟨f1, f2, kvs, f3, f4, _⟩ := rel4.mu p _ muSet_same
    have ek0 : kvs = [] := List.map_eq_nil_iff.mp f4
    subst ek0
    have eB := ((e1.trans e2).trans e3).trans e4
    refine ⟨f3, [(k, v3)], rfl, (show 1 ≤ 15 from by decide), ?_⟩
    have no : ∀ (i : Nat) (k' : Cont), env[i]? = some (some (.own k')) → σ[i]? ≠ some (some (.ref p)) := fun i k' hi z => by
      obtain ⟨a, g1, _, _, g4, _⟩ := rel4.sl i _ hi
      rw [z] at g1
      cases g1
      rw [muSet_same] at g4
      cases g4
    have relB := Rel.unmu rel4 nm
    refine k' (.fresh (.dic [k] [r3.d])) μ _ F4 _ (relB.touch (o' := .dK (mergeK [] [(k, v3)])) f3 ⟨(fun ps z => by cases z), (fun φ z => by cases z)⟩ f1 f2 nm no) eB ⟨p, rfl, f1, f2, nm, no, [(k, v3)], upd_same, rfl, .one s3⟩ q
end
end PD
set_option Elab.async false
set_option linter.all false
set_option maxRecDepth 100000
set_option maxHeartbeats 2000000
/-! PD61: tables of words: rows alike, groups, the least table. -/
namespace PD
open PySem PySem.Spec L2
/-- a table of rows for that many signs -/
structure GT (t : List (List Int)) (m : Int) : Prop where
  hm : 2 ≤ m ∧ m ≤ 4
  n1 : 1 ≤ t.length
  n2 : t.length ≤ 1000
  rl : ∀ r ∈ t, (r.length : Int) = m
  rg : ∀ r ∈ t, ∀ x ∈ r, -1 ≤ x ∧ x < t.length
def tabD (t : List (List Int)) : D := .tup (t.map fun r => .tup (r.map .int))
def rowOf (t : List (List Int)) (i : Int) : List Int := t.getD i.toNat []
def stp (t : List (List Int)) (i s : Int) : Int := if i < 0 then -1 else (rowOf t i).getD s.toNat (-1)
def runT (t : List (List Int)) (i : Int) (w : List Int) : Int := w.foldl (stp t) i
def AliN (t : List (List Int)) (m : Int) (k : Nat) (i j : Int) : Prop := ∀ w, Signs m w → w.length ≤ k → (runT t i w < 0 ↔ runT t j w < 0)
def Ali (t : List (List Int)) (m : Int) (i j : Int) : Prop := ∀ w, Signs m w → (runT t i w < 0 ↔ runT t j w < 0)
section
variable {t : List (List Int)} {m i j s : Int} {k : Nat}
theorem rowOf_mem (h : 0 ≤ i ∧ i < t.length) : rowOf t i ∈ t := by
  unfold rowOf
  rw [List.getD_eq_getElem?_getD, List.getElem?_eq_getElem (by omega)]
  exact List.getElem_mem ..
theorem stp_neg (h : i < 0) : stp t i s = -1 := if_pos h
theorem stp_pos (h : 0 ≤ i) : stp t i s = (rowOf t i).getD s.toNat (-1) := if_neg (by omega)
theorem getD_in {l : List Int} {n : Nat} {d : Int} (h : n < l.length) : l.getD n d ∈ l := by
  rw [List.getD_eq_getElem?_getD, List.getElem?_eq_getElem h]
  exact List.getElem_mem ..
theorem stp_rg (g : GT t m) (h : 0 ≤ i ∧ i < t.length) (hs : 0 ≤ s ∧ s < m) : -1 ≤ stp t i s ∧ stp t i s < t.length := by
  rw [stp_pos h.1]
  have hr := rowOf_mem h
  exact g.rg _ hr _ (getD_in (by have := g.rl _ hr; omega))
theorem runT_neg : ∀ {w : List Int} {i : Int}, i < 0 → runT t i w < 0
  | [], _, h => h
  | s :: w, i, h => by
    show runT t (stp t i s) w < 0
    rw [stp_neg h]
    exact runT_neg (w := w) (show (-1 : Int) < 0 by decide)
theorem getD_map_at {f : Int → Int} {l : List Int} {s : Nat} {d e : Int} (h : s < l.length) : (l.map f).getD s e = f (l.getD s d) := by
  rw [List.getD_eq_getElem?_getD, List.getD_eq_getElem?_getD, List.getElem?_map, List.getElem?_eq_getElem h]
  rfl
theorem get_getD {l : List Int} {s : Nat} {d : Int} (h : s < l.length) : l[s]? = some (l.getD s d) := by
  rw [List.getD_eq_getElem?_getD, List.getElem?_eq_getElem h]
  rfl
theorem Ali.refl : Ali t m i i := fun _ _ => Iff.rfl
theorem Ali.symm (h : Ali t m i j) : Ali t m j i := fun w hw => (h w hw).symm
theorem Ali.trans {l : Int} (h : Ali t m i j) (h' : Ali t m j l) : Ali t m i l := fun w hw => (h w hw).trans (h' w hw)
theorem Ali.stp (h : Ali t m i j) (hs : 0 ≤ s ∧ s < m) : Ali t m (stp t i s) (stp t j s) := fun w hw => h (s :: w) fun k hk => by
  rcases List.mem_cons.mp hk with rfl | hk
  · exact hs
  · exact hw k hk
theorem Ali.neg (h : Ali t m i j) : i < 0 ↔ j < 0 := h [] fun k hk => by cases hk
theorem AliN.succ (h : AliN t m k i j) (hs : ∀ s, 0 ≤ s → s < m → (PD.stp t i s < 0 ↔ PD.stp t j s < 0) ∧ (0 ≤ PD.stp t i s → AliN t m k (PD.stp t i s) (PD.stp t j s))) : AliN t m (k + 1) i j := by
  intro w hw hl
  cases w with
  | nil => exact h [] hw (Nat.zero_le _)
  | cons s w =>
    have h0 := hw s (List.mem_cons_self ..)
    have hw' : Signs m w := fun k hk => hw k (List.mem_cons_of_mem _ hk)
    obtain ⟨e, f⟩ := hs s h0.1 h0.2
    show runT t (PD.stp t i s) w < 0 ↔ runT t (PD.stp t j s) w < 0
    by_cases c : PD.stp t i s < 0
    · exact ⟨fun _ => runT_neg (e.mp c), fun _ => runT_neg c⟩
    · exact f (by omega) w hw' (by rw [List.length_cons] at hl; omega)
theorem AliN.down (h : AliN t m (k + 1) i j) : AliN t m k i j := fun w hw hl => h w hw (by omega)
theorem AliN.next (h : AliN t m (k + 1) i j) (hs : 0 ≤ s ∧ s < m) : AliN t m k (PD.stp t i s) (PD.stp t j s) := fun w hw hl => h (s :: w) (fun q hq => by
  rcases List.mem_cons.mp hq with rfl | hq
  · exact hs
  · exact hw q hq) (by rw [List.length_cons]; omega)
theorem AliN.neg (h : AliN t m k i j) : i < 0 ↔ j < 0 := h [] (fun k hk => by cases hk) (Nat.zero_le _)
/-- nothing more is told apart by longer words -/
theorem ali_stable (g : GT t m) (st : ∀ i j : Int, (0 ≤ i ∧ i < t.length) → (0 ≤ j ∧ j < t.length) → AliN t m k i j → AliN t m (k + 1) i j) : ∀ i j : Int, (0 ≤ i ∧ i < t.length) → (0 ≤ j ∧ j < t.length) → AliN t m k i j → Ali t m i j := by
  have all : ∀ r : Nat, ∀ i j : Int, (0 ≤ i ∧ i < t.length) → (0 ≤ j ∧ j < t.length) → AliN t m k i j → AliN t m (k + r) i j := by
    intro r
    induction r with
    | zero => intro i j _ _ h; exact h
    | succ r ih =>
      intro i j hi hj h
      have h1 := st i j hi hj h
      refine (ih i j hi hj h).succ fun s h0 h2 => ?_
      have e := h1.next ⟨h0, h2⟩
      refine ⟨e.neg, fun p => ?_⟩
      have p' : 0 ≤ PD.stp t j s := by have := e.neg; omega
      exact ih _ _ ⟨p, (stp_rg g hi ⟨h0, h2⟩).2⟩ ⟨p', (stp_rg g hj ⟨h0, h2⟩).2⟩ e
  intro i j hi hj h w hw
  exact all w.length i j hi hj h w hw (by omega)
end
/-! ### labels -/
/-- equal labels just where no word of that length or shorter tells them apart -/
structure Lab (t : List (List Int)) (m : Int) (k : Nat) (g : List Int) : Prop where
  len : g.length = t.length
  nn : ∀ x ∈ g, 0 ≤ x
  eq : ∀ i j : Nat, i < t.length → j < t.length → (g.getD i 0 = g.getD j 0 ↔ AliN t m k i j)
structure LabT (t : List (List Int)) (m : Int) (g : List Int) : Prop where
  len : g.length = t.length
  nn : ∀ x ∈ g, 0 ≤ x
  eq : ∀ i j : Nat, i < t.length → j < t.length → (g.getD i 0 = g.getD j 0 ↔ Ali t m i j)
theorem lab_zero {t : List (List Int)} {m : Int} : Lab t m 0 (List.replicate t.length 0) := by
  refine ⟨List.length_replicate, fun x hx => by rw [(List.mem_replicate.mp hx).2]; decide, fun i j hi hj => ⟨fun _ w _ hl => ?_, fun _ => ?_⟩⟩
  · obtain rfl := List.length_eq_zero_iff.mp (by omega : w.length = 0)
    show (i : Int) < 0 ↔ (j : Int) < 0
    omega
  · rw [List.getD_eq_getElem?_getD, List.getD_eq_getElem?_getD, List.getElem?_replicate, List.getElem?_replicate, if_pos hi, if_pos hj]
/-- what a row is told by: its label, the labels ahead -/
def keyT (g r : List Int) (x : Int) : List Int := x :: r.map fun to => if to = -1 then -1 else g.getD to.toNat 0
theorem lab_next {t : List (List Int)} {m : Int} {k : Nat} {g g' : List Int} (T : GT t m) (L : Lab t m k g) (hl : g'.length = t.length) (nn : ∀ x ∈ g', 0 ≤ x)
    (he : ∀ i j : Nat, i < t.length → j < t.length → (g'.getD i 0 = g'.getD j 0 ↔ keyT g (t.getD i []) (g.getD i 0) = keyT g (t.getD j []) (g.getD j 0))) : Lab t m (k + 1) g' := by
  refine ⟨hl, nn, fun i j hi hj => (he i j hi hj).trans ?_⟩
  have ri : ∀ i : Nat, i < t.length → t.getD i [] ∈ t ∧ rowOf t i = t.getD i [] := fun i hi => by
    refine ⟨?_, rfl⟩
    rw [List.getD_eq_getElem?_getD, List.getElem?_eq_getElem hi]
    exact List.getElem_mem ..
  have sp : ∀ (i : Nat) (s : Int), stp t i s = (t.getD i []).getD s.toNat (-1) := fun i s => stp_pos (by omega)
  have gd : ∀ (i s : Nat), i < t.length → (s : Int) < m → (keyT g (t.getD i []) (g.getD i 0)).getD (s + 1) 0 = if stp t i (s : Int) = -1 then -1 else g.getD (stp t i (s : Int)).toNat 0 := fun i s hi hs => by
    show ((t.getD i []).map fun to => if to = -1 then -1 else g.getD to.toNat 0).getD s 0 = _
    have hr := T.rl _ (ri i hi).1
    rw [sp, Int.toNat_natCast]
    exact getD_map_at (by omega)
  have gn : ∀ x : Int, 0 ≤ x ∧ x < t.length → 0 ≤ g.getD x.toNat 0 := fun x hx => L.nn _ (getD_in (by rw [L.len]; omega))
  have gE : ∀ x y : Int, (0 ≤ x ∧ x < t.length) → (0 ≤ y ∧ y < t.length) → (g.getD x.toNat 0 = g.getD y.toNat 0 ↔ AliN t m k x y) := fun x y hx hy => by
    have e := L.eq x.toNat y.toNat (by omega) (by omega)
    rw [show ((x.toNat : Nat) : Int) = x by omega, show ((y.toNat : Nat) : Int) = y by omega] at e
    exact e
  have hII : ∀ i : Nat, i < t.length → 0 ≤ (i : Int) ∧ (i : Int) < t.length := fun i hi => ⟨by omega, by omega⟩
  constructor
  · intro h
    have h0 : g.getD i 0 = g.getD j 0 := (List.cons.inj h).1
    refine ((L.eq i j hi hj).mp h0).succ fun s s0 s1 => ?_
    have e := congrArg (fun l : List Int => l.getD (s.toNat + 1) 0) h
    rw [gd i _ hi (by omega), gd j _ hj (by omega), show ((s.toNat : Nat) : Int) = s by omega] at e
    obtain ⟨a1, a2⟩ := stp_rg T (hII i hi) ⟨s0, s1⟩
    obtain ⟨b1, b2⟩ := stp_rg T (hII j hj) ⟨s0, s1⟩
    by_cases c1 : stp t i s = -1
    · by_cases c2 : stp t j s = -1
      · exact ⟨by rw [c1, c2], fun p => by omega⟩
      · rw [if_pos c1, if_neg c2] at e
        have := gn (stp t j s) ⟨by omega, b2⟩
        omega
    · by_cases c2 : stp t j s = -1
      · rw [if_neg c1, if_pos c2] at e
        have := gn (stp t i s) ⟨by omega, a2⟩
        omega
      · rw [if_neg c1, if_neg c2] at e
        exact ⟨by omega, fun _ => (gE _ _ ⟨by omega, a2⟩ ⟨by omega, b2⟩).mp e⟩
  · intro h
    have h0 := (L.eq i j hi hj).mpr h.down
    unfold keyT
    rw [h0]
    congr 1
    have li := T.rl _ (ri i hi).1
    have lj := T.rl _ (ri j hj).1
    apply List.ext_getElem?
    intro s
    by_cases hs : s < (t.getD i []).length
    · have a := gd i s hi (by omega)
      have b := gd j s hj (by omega)
      have e : (if stp t i (s : Int) = -1 then (-1 : Int) else g.getD (stp t i (s : Int)).toNat 0) = if stp t j (s : Int) = -1 then -1 else g.getD (stp t j (s : Int)).toNat 0 := by
        have n := h.next (s := (s : Int)) ⟨by omega, by omega⟩
        obtain ⟨a1, a2⟩ := stp_rg T (hII i hi) (s := (s : Int)) ⟨by omega, by omega⟩
        obtain ⟨b1, b2⟩ := stp_rg T (hII j hj) (s := (s : Int)) ⟨by omega, by omega⟩
        have nn := n.neg
        by_cases c1 : stp t i (s : Int) = -1
        · rw [if_pos c1, if_pos (by omega)]
        · rw [if_neg c1, if_neg (by omega)]
          exact (gE _ _ ⟨by omega, a2⟩ ⟨by omega, b2⟩).mpr n
      rw [← a, ← b] at e
      have e : ((t.getD i []).map fun to => if to = -1 then -1 else g.getD to.toNat 0).getD s 0 = ((t.getD j []).map fun to => if to = -1 then -1 else g.getD to.toNat 0).getD s 0 := e
      rw [get_getD (d := 0) (by rw [List.length_map]; exact hs), get_getD (d := 0) (by rw [List.length_map]; omega), e]
    · rw [List.getElem?_eq_none (by rw [List.length_map]; omega), List.getElem?_eq_none (by rw [List.length_map]; omega)]
/-- as many labels: none was told apart anew -/
theorem nodup_le {a b : List Int} (ha : a.Nodup) (h : ∀ k, k ∈ a → k ∈ b) : a.length ≤ b.length := by
  induction a generalizing b with
  | nil => exact Nat.zero_le _
  | cons x a ih =>
    have hx := h x (List.mem_cons_self ..)
    have hn' := List.nodup_cons.mp ha
    have := ih (b := b.erase x) hn'.2 fun k hk => (List.mem_erase_of_ne (fun z => hn'.1 (by rw [← z]; exact hk))).mpr (h k (List.mem_cons_of_mem _ hk))
    rw [List.length_erase_of_mem hx] at this
    have p := List.length_pos_of_mem hx
    rw [List.length_cons]
    omega
theorem dedupL (l : List Int) : ∃ o : List Int, o.Nodup ∧ ∀ k, k ∈ o ↔ k ∈ l := by
  induction l with
  | nil => exact ⟨[], List.nodup_nil, fun k => Iff.rfl⟩
  | cons x l ih =>
    obtain ⟨o, n, h⟩ := ih
    by_cases c : x ∈ o
    · refine ⟨o, n, fun k => ?_⟩
      rw [h, List.mem_cons]
      refine ⟨.inr, fun z => z.elim (fun e => ?_) id⟩
      rw [e]
      exact (h x).mp c
    · refine ⟨x :: o, List.nodup_cons.mpr ⟨c, n⟩, fun k => ?_⟩
      rw [List.mem_cons, List.mem_cons, h]
theorem finer {n : Nat} {g g' : List Int} {a b : Nat} (hl : g.length = n) (hl' : g'.length = n) (da : Dist g a) (db : Dist g' b) (hr : ∀ i j : Nat, i < n → j < n → g'.getD i 0 = g'.getD j 0 → g.getD i 0 = g.getD j 0) :
    a ≤ b ∧ (b ≤ a → ∀ i j : Nat, i < n → j < n → g.getD i 0 = g.getD j 0 → g'.getD i 0 = g'.getD j 0) := by
  obtain ⟨o, on, om⟩ := dedupL g
  obtain ⟨o', on', om'⟩ := dedupL g'
  rw [da o on om, db o' on' om']
  have at_ : ∀ {l : List Int} {x : Int}, x ∈ l → ∃ i : Nat, i < l.length ∧ l.getD i 0 = x := fun {l x} hx => by
    obtain ⟨i, hi, e⟩ := List.mem_iff_getElem.mp hx
    exact ⟨i, hi, by rw [List.getD_eq_getElem?_getD, List.getElem?_eq_getElem hi]; exact e⟩
  -- the label of an old kind for each new one
  let f : Int → Int := fun x => g.getD (g'.idxOf x) 0
  have fx : ∀ i : Nat, i < n → f (g'.getD i 0) = g.getD i 0 := fun i hi => by
    have hm : g'.getD i 0 ∈ g' := getD_in (by omega)
    have hx := List.idxOf_lt_length_of_mem hm
    refine hr _ _ (by omega) hi ?_
    rw [List.getD_eq_getElem?_getD, List.getElem?_eq_getElem hx]
    exact List.getElem_idxOf hx
  have cover : ∀ l : List Int, (∀ x ∈ o', x ∈ l ∨ ∃ y ∈ l, f y = f x) → ∀ k ∈ o, k ∈ l.map f := fun l hl0 k hk => by
    obtain ⟨i, hi, e⟩ := at_ ((om k).mp hk)
    have hm : g'.getD i 0 ∈ o' := (om' _).mpr (getD_in (by omega))
    rcases hl0 _ hm with h | ⟨y, hy, ey⟩
    · exact List.mem_map.mpr ⟨_, h, (fx i (by omega)).trans e⟩
    · exact List.mem_map.mpr ⟨y, hy, by rw [ey, fx i (by omega)]; exact e⟩
  refine ⟨?_, fun hle i j hi hj e => ?_⟩
  · have := nodup_le on (cover o' fun x hx => .inl hx)
    rw [List.length_map] at this
    exact this
  · refine Classical.byContradiction fun ne => ?_
    have mi : g'.getD i 0 ∈ o' := (om' _).mpr (getD_in (by omega))
    have mj : g'.getD j 0 ∈ o' := (om' _).mpr (getD_in (by omega))
    have ef : f (g'.getD j 0) = f (g'.getD i 0) := by rw [fx i hi, fx j hj, e]
    have := nodup_le on (cover (o'.erase (g'.getD i 0)) fun x hx => by
      by_cases c : x = g'.getD i 0
      · exact .inr ⟨g'.getD j 0, (List.mem_erase_of_ne (fun z => ne z.symm)).mpr mj, by rw [c]; exact ef⟩
      · exact .inl ((List.mem_erase_of_ne c).mpr hx))
    rw [List.length_map, List.length_erase_of_mem mi] at this
    have p := List.length_pos_of_mem mi
    omega
theorem lab_done {t : List (List Int)} {m : Int} {k : Nat} {g g' : List Int} {a b : Nat} (T : GT t m) (L : Lab t m k g) (L' : Lab t m (k + 1) g') (da : Dist g a) (db : Dist g' b) (h : b ≤ a) : LabT t m g' := by
  obtain ⟨_, f⟩ := finer L.len L'.len da db fun i j hi hj e => (L.eq i j hi hj).mpr ((L'.eq i j hi hj).mp e).down
  have st : ∀ i j : Int, (0 ≤ i ∧ i < t.length) → (0 ≤ j ∧ j < t.length) → AliN t m k i j → AliN t m (k + 1) i j := fun i j hi hj h1 => by
    have e1 := L.eq i.toNat j.toNat (by omega) (by omega)
    have e2 := L'.eq i.toNat j.toNat (by omega) (by omega)
    rw [show ((i.toNat : Nat) : Int) = i by omega, show ((j.toNat : Nat) : Int) = j by omega] at e1 e2
    exact e2.mp (f h _ _ (by omega) (by omega) (e1.mpr h1))
  refine ⟨L'.len, L'.nn, fun i j hi hj => (L'.eq i j hi hj).trans ⟨fun h => ?_, fun h w hw _ => h w hw⟩⟩
  exact ali_stable T st i j ⟨by omega, by omega⟩ ⟨by omega, by omega⟩ h.down
theorem lab_grows {t : List (List Int)} {m : Int} {k : Nat} {g g' : List Int} {a b : Nat} (L : Lab t m k g) (L' : Lab t m (k + 1) g') (da : Dist g a) (db : Dist g' b) : a ≤ b :=
  (finer L.len L'.len da db fun i j hi hj e => (L.eq i j hi hj).mpr ((L'.eq i j hi hj).mp e).down).1
theorem dist_le {g : List Int} {a : Nat} (da : Dist g a) : a ≤ g.length := by
  obtain ⟨o, on, om⟩ := dedupL g
  rw [da o on om]
  exact nodup_le on fun k hk => (om k).mp hk
theorem dist_pos {g : List Int} {a : Nat} (da : Dist g a) (h : g ≠ []) : 0 < a := by
  obtain ⟨o, on, om⟩ := dedupL g
  rw [da o on om]
  obtain ⟨x, l, rfl⟩ := List.exists_cons_of_ne_nil h
  exact List.length_pos_of_mem ((om x).mpr (List.mem_cons_self ..))
end PD
set_option Elab.async false
set_option linter.all false
set_option maxRecDepth 100000
set_option maxHeartbeats 2000000
/-! PD62: the least table, row by row. -/
namespace PD
open PySem PySem.Spec L2
noncomputable def aliB (t : List (List Int)) (m i j : Int) : Bool := @decide (Ali t m i j) (Classical.propDecidable _)
theorem aliB_iff {t : List (List Int)} {m i j : Int} : aliB t m i j = true ↔ Ali t m i j := @decide_eq_true_iff _ (Classical.propDecidable _)
/-- the place of the first row met that is alike -/
noncomputable def spotA (t : List (List Int)) (m : Int) (q : List Int) (to : Int) : Option Nat := q.findIdx? fun x => aliB t m x to
noncomputable def visA (t : List (List Int)) (m : Int) (p : List Int × List Int) (to : Int) : List Int × List Int :=
  if to < 0 then (p.1, p.2 ++ [-1]) else match spotA t m p.1 to with
  | some x => (p.1, p.2 ++ [(x : Int)])
  | none => (p.1 ++ [to], p.2 ++ [(p.1.length : Int)])
noncomputable def stepA (t : List (List Int)) (m : Int) (p : List Int × List (List Int)) : List Int × List (List Int) :=
  ((((rowOf t (p.1.getD p.2.length 0)).foldl (visA t m) (p.1, [])).1), p.2 ++ [((rowOf t (p.1.getD p.2.length 0)).foldl (visA t m) (p.1, [])).2])
noncomputable def lrun (t : List (List Int)) (m : Int) : Nat → List Int × List (List Int) → List Int × List (List Int)
  | 0, p => p
  | k + 1, p => if p.2.length < p.1.length then lrun t m k (stepA t m p) else p
noncomputable def leastP (t : List (List Int)) (m : Int) : List Int × List (List Int) := lrun t m (t.length + 1) ([0], [])
noncomputable def leastA (t : List (List Int)) (m : Int) : List (List Int) := (leastP t m).2
def upto (n : Nat) : List Int := (List.range n).map fun i : Nat => (i : Int)
theorem upto_len {n : Nat} : (upto n).length = n := by unfold upto; rw [List.length_map, List.length_range]
theorem upto_succ {n : Nat} : upto (n + 1) = upto n ++ [(n : Int)] := by unfold upto; rw [List.range_succ, List.map_append]; rfl
theorem upto_at {n i : Nat} {d : Int} (h : i < n) : (upto n).getD i d = i := by
  unfold upto
  rw [List.getD_eq_getElem?_getD, List.getElem?_map, List.getElem?_range h]
  rfl
section
variable {t : List (List Int)} {m : Int}
theorem spot_some {q : List Int} {to : Int} {x : Nat} (h : spotA t m q to = some x) : x < q.length ∧ Ali t m (q.getD x 0) to := by
  have := List.findIdx?_eq_some_iff_getElem.mp h
  obtain ⟨hx, e, _⟩ := this
  refine ⟨hx, ?_⟩
  rw [List.getD_eq_getElem?_getD, List.getElem?_eq_getElem hx]
  exact aliB_iff.mp e
theorem spot_none {q : List Int} {to : Int} (h : spotA t m q to = none) : ∀ x ∈ q, ¬ Ali t m x to := fun x hx a => by
  have := List.findIdx?_eq_none_iff.mp h x hx
  rw [aliB_iff.mpr a] at this
  cases this
/-- rows met: in range, told apart by words, the first one ahead -/
structure Met (t : List (List Int)) (m : Int) (q : List Int) : Prop where
  rg : ∀ x ∈ q, 0 ≤ x ∧ x < t.length
  nd : q.Pairwise fun x y => ¬ Ali t m x y
  hd : q.head? = some 0
theorem Met.nodup {q : List Int} (h : Met t m q) : q.Nodup := h.nd.imp fun n e => n (by rw [e]; exact Ali.refl)
theorem Met.le {q : List Int} (h : Met t m q) : q.length ≤ t.length := by
  have := nodup_le h.nodup (b := upto t.length) fun k hk => List.mem_map.mpr ⟨k.toNat, List.mem_range.mpr (by have := h.rg k hk; omega), by have := h.rg k hk; show ((k.toNat : Nat) : Int) = k; omega⟩
  rw [upto_len] at this
  exact this
theorem Met.pos {q : List Int} (h : Met t m q) : 0 < q.length := by
  cases q with
  | nil => have := h.hd; cases this
  | cons a l => exact Nat.succ_pos _
theorem Met.at {q : List Int} (h : Met t m q) {a : Nat} (ha : a < q.length) : 0 ≤ q.getD a 0 ∧ q.getD a 0 < t.length := h.rg _ (getD_in ha)
theorem Met.one {q : List Int} (h : Met t m q) {a b : Nat} (ha : a < q.length) (hb : b < q.length) (e : Ali t m (q.getD a 0) (q.getD b 0)) : a = b := by
  have key : ∀ {a b : Nat}, a < q.length → b < q.length → a < b → ¬ Ali t m (q.getD a 0) (q.getD b 0) := fun {a b} ha hb lt => by
    have := List.pairwise_iff_getElem.mp h.nd a b ha hb lt
    rw [List.getD_eq_getElem?_getD, List.getD_eq_getElem?_getD, List.getElem?_eq_getElem ha, List.getElem?_eq_getElem hb]
    exact this
  rcases Nat.lt_trichotomy a b with c | c | c
  · exact absurd e (key ha hb c)
  · exact c
  · exact absurd e.symm (key hb ha c)
theorem Met.start (g : GT t m) : Met t m [0] := ⟨fun x hx => by rw [List.mem_singleton.mp hx]; have := g.n1; omega, List.pairwise_singleton .., rfl⟩
/-- what a visit does to the rows met, to the row told -/
theorem vis_ok {p : List Int × List Int} {to : Int} (h : Met t m p.1) (ht : -1 ≤ to ∧ to < t.length) :
    Met t m (visA t m p to).1 ∧ (∃ e, (visA t m p to).1 = p.1 ++ e) ∧ ∃ v : Int, (visA t m p to).2 = p.2 ++ [v] ∧ (v < 0 ↔ to < 0) ∧ -1 ≤ v ∧ v < (visA t m p to).1.length ∧ (0 ≤ v → Ali t m ((visA t m p to).1.getD v.toNat 0) to) ∧
      ((v < p.1.length ∧ (visA t m p to).1 = p.1) ∨ (v = p.1.length ∧ (visA t m p to).1 = p.1 ++ [to])) := by
  unfold visA
  by_cases c : to < 0
  · rw [if_pos c]
    exact ⟨h, ⟨[], (List.append_nil _).symm⟩, -1, rfl, by omega, by decide, by have := h.pos; show (-1 : Int) < p.1.length; omega, fun z => absurd z (by decide), .inl ⟨by have := h.pos; omega, rfl⟩⟩
  · rw [if_neg c]
    cases e : spotA t m p.1 to with
    | some x =>
      obtain ⟨h1, h2⟩ := spot_some e
      exact ⟨h, ⟨[], (List.append_nil _).symm⟩, x, rfl, by omega, by omega, by show (x : Int) < p.1.length; omega, fun _ => by rw [Int.toNat_natCast]; exact h2, .inl ⟨by omega, rfl⟩⟩
    | none =>
      have hn := spot_none e
      refine ⟨⟨fun x hx => ?_, ?_, ?_⟩, ⟨[to], rfl⟩, p.1.length, rfl, by omega, by omega, by show (p.1.length : Int) < ((p.1 ++ [to]).length : Nat); rw [List.length_append]; show _ < ((_ + 1 : Nat) : Int); omega, fun _ => ?_, .inr ⟨rfl, rfl⟩⟩
      · rcases List.mem_append.mp hx with hx | hx
        · exact h.rg x hx
        · rw [List.mem_singleton.mp hx]; omega
      · rw [List.pairwise_append]
        exact ⟨h.nd, List.pairwise_singleton .., fun x hx y hy => by rw [List.mem_singleton.mp hy]; exact hn x hx⟩
      · show (p.1 ++ [to]).head? = some 0
        rw [List.head?_append, h.hd]
        rfl
      · show Ali t m ((p.1 ++ [to]).getD ((p.1.length : Nat) : Int).toNat 0) to
        rw [Int.toNat_natCast, List.getD_eq_getElem?_getD, List.getElem?_append_right (Nat.le_refl _), Nat.sub_self]
        exact Ali.refl
/-- a told row: where each sign leads, by the rows met -/
def RowOk (t : List (List Int)) (m : Int) (q : List Int) (r row : List Int) : Prop := row.length = r.length ∧ ∀ s : Nat, s < r.length → (row.getD s 0 < 0 ↔ r.getD s 0 < 0) ∧ -1 ≤ row.getD s 0 ∧ row.getD s 0 < q.length ∧ (0 ≤ row.getD s 0 → Ali t m (q.getD (row.getD s 0).toNat 0) (r.getD s 0))
theorem getD_app {l e : List Int} {n : Nat} {d : Int} (h : n < l.length) : (l ++ e).getD n d = l.getD n d := by
  rw [List.getD_eq_getElem?_getD, List.getD_eq_getElem?_getD, List.getElem?_append_left h]
theorem getD_dd {l : List Int} {n : Nat} {d e : Int} (h : n < l.length) : l.getD n d = l.getD n e := by
  rw [List.getD_eq_getElem?_getD, List.getD_eq_getElem?_getD, List.getElem?_eq_getElem h]
  rfl
theorem getD_last {l : List Int} {x d : Int} : (l ++ [x]).getD l.length d = x := by
  rw [List.getD_eq_getElem?_getD, List.getElem?_append_right (Nat.le_refl _), Nat.sub_self]
  rfl
theorem RowOk.more {q e r row : List Int} (h : RowOk t m q r row) : RowOk t m (q ++ e) r row := ⟨h.1, fun s hs => by
  obtain ⟨a, b, c, d⟩ := h.2 s hs
  refine ⟨a, b, by rw [List.length_append]; omega, fun z => ?_⟩
  rw [getD_app (by omega)]
  exact d z⟩
theorem fold_ok : ∀ (rest done : List Int) (p : List Int × List Int), Met t m p.1 → (∀ x ∈ rest, -1 ≤ x ∧ x < t.length) → RowOk t m p.1 done p.2 →
    Met t m (rest.foldl (visA t m) p).1 ∧ (∃ e, (rest.foldl (visA t m) p).1 = p.1 ++ e) ∧ RowOk t m (rest.foldl (visA t m) p).1 (done ++ rest) (rest.foldl (visA t m) p).2
  | [], done, p, h, _, hr => ⟨h, ⟨[], (List.append_nil _).symm⟩, by rw [List.append_nil]; exact hr⟩
  | to :: rest, done, p, h, hx, hr => by
    obtain ⟨h1, ⟨e, he⟩, v, hv, v1, v2, v3, v4, _⟩ := vis_ok h (hx to (List.mem_cons_self ..))
    have hr1 : RowOk t m (visA t m p to).1 (done ++ [to]) (visA t m p to).2 := by
      have hm := hr.more (e := e)
      rw [← he] at hm
      refine ⟨by rw [hv, List.length_append, List.length_append, hr.1]; rfl, fun s hs => ?_⟩
      rw [hv]
      by_cases c : s < done.length
      · obtain ⟨a1, a2, a3, a4⟩ := hm.2 s c
        rw [getD_app (by rw [hr.1]; exact c), getD_app c]
        exact ⟨a1, a2, a3, a4⟩
      · have es : s = done.length := by rw [List.length_append] at hs; have : ([to] : List Int).length = 1 := rfl; omega
        rw [es, getD_last, ← hr.1, getD_last]
        exact ⟨v1, v2, v3, v4⟩
    obtain ⟨k1, ⟨e', k2⟩, k3⟩ := fold_ok rest (done ++ [to]) (visA t m p to) h1 (fun x hx' => hx x (List.mem_cons_of_mem _ hx')) hr1
    refine ⟨k1, ⟨e ++ e', ?_⟩, ?_⟩
    · show (rest.foldl (visA t m) (visA t m p to)).1 = _
      rw [k2, he, List.append_assoc]
    · rw [List.append_assoc] at k3
      exact k3
/-- where the rows stand -/
structure StA (t : List (List Int)) (m : Int) (p : List Int × List (List Int)) : Prop where
  met : Met t m p.1
  le : p.2.length ≤ p.1.length
  ok : ∀ a : Nat, a < p.2.length → RowOk t m p.1 (rowOf t (p.1.getD a 0)) (p.2.getD a [])
theorem StA.start (g : GT t m) : StA t m ([0], []) := ⟨Met.start g, Nat.zero_le _, fun a ha => by cases ha⟩
theorem row_rg (g : GT t m) {i : Int} (h : 0 ≤ i ∧ i < t.length) : ∀ x ∈ rowOf t i, -1 ≤ x ∧ x < t.length := g.rg _ (rowOf_mem h)
theorem getDl_app {l e : List (List Int)} {n : Nat} (h : n < l.length) : (l ++ e).getD n [] = l.getD n [] := by
  rw [List.getD_eq_getElem?_getD, List.getD_eq_getElem?_getD, List.getElem?_append_left h]
theorem getDl_last {l : List (List Int)} {x : List Int} : (l ++ [x]).getD l.length [] = x := by
  rw [List.getD_eq_getElem?_getD, List.getElem?_append_right (Nat.le_refl _), Nat.sub_self]
  rfl
theorem StA.step (g : GT t m) {p : List Int × List (List Int)} (s : StA t m p) (lt : p.2.length < p.1.length) : StA t m (stepA t m p) ∧ (∃ e, (stepA t m p).1 = p.1 ++ e) ∧ (stepA t m p).2.length = p.2.length + 1 ∧ ∃ row, (stepA t m p).2 = p.2 ++ [row] := by
  obtain ⟨k1, ⟨e, k2⟩, k3⟩ := fold_ok (rowOf t (p.1.getD p.2.length 0)) [] (p.1, []) s.met (row_rg g (s.met.at lt)) ⟨rfl, fun x hx => by cases hx⟩
  have k2 : ((rowOf t (p.1.getD p.2.length 0)).foldl (visA t m) (p.1, [])).1 = p.1 ++ e := k2
  refine ⟨⟨k1, ?_, fun a ha => ?_⟩, ⟨e, k2⟩, by show (p.2 ++ [_]).length = _; rw [List.length_append]; rfl, ⟨_, rfl⟩⟩
  · show (p.2 ++ [_]).length ≤ (((rowOf t (p.1.getD p.2.length 0)).foldl (visA t m) (p.1, [])).1).length
    rw [List.length_append, k2, List.length_append]
    show p.2.length + 1 ≤ p.1.length + e.length
    omega
  · have ha : a < (p.2 ++ [((rowOf t (p.1.getD p.2.length 0)).foldl (visA t m) (p.1, [])).2]).length := ha
    show RowOk t m ((rowOf t (p.1.getD p.2.length 0)).foldl (visA t m) (p.1, [])).1 (rowOf t ((((rowOf t (p.1.getD p.2.length 0)).foldl (visA t m) (p.1, [])).1).getD a 0)) ((p.2 ++ [((rowOf t (p.1.getD p.2.length 0)).foldl (visA t m) (p.1, [])).2]).getD a [])
    rw [List.length_append] at ha
    have l1 : ([((rowOf t (p.1.getD p.2.length 0)).foldl (visA t m) (p.1, [])).2] : List (List Int)).length = 1 := rfl
    by_cases c : a < p.2.length
    · rw [getDl_app c]
      have o := (s.ok a c).more (e := e)
      have sl := s.le
      rw [k2, getD_app (by omega)]
      exact o
    · have ea : a = p.2.length := by omega
      rw [ea, getDl_last]
      rw [List.nil_append] at k3
      have e2 : (((rowOf t (p.1.getD p.2.length 0)).foldl (visA t m) (p.1, [])).1).getD p.2.length 0 = p.1.getD p.2.length 0 := by
        rw [k2]
        exact getD_app lt
      rw [e2]
      exact k3
theorem lrun_ok (g : GT t m) : ∀ (k : Nat) (p : List Int × List (List Int)), StA t m p → t.length + 1 ≤ k + p.2.length → StA t m (lrun t m k p) ∧ (lrun t m k p).2.length = (lrun t m k p).1.length ∧ (lrun t m k p).1.head? = some 0
  | 0, p, s, h => by have := s.met.le; have := s.le; omega
  | k + 1, p, s, h => by
    unfold lrun
    by_cases c : p.2.length < p.1.length
    · rw [if_pos c]
      obtain ⟨s1, _, l1, _⟩ := s.step g c
      exact lrun_ok g k _ s1 (by omega)
    · rw [if_neg c]
      exact ⟨s, by have := s.le; omega, s.met.hd⟩
/-- what the least table is -/
theorem least_ok (g : GT t m) : StA t m (leastP t m) ∧ (leastP t m).2.length = (leastP t m).1.length ∧ (leastP t m).1.head? = some 0 := lrun_ok g _ _ (StA.start g) (by show t.length + 1 ≤ t.length + 1 + 0; omega)
theorem least_gt (g : GT t m) : GT (leastA t m) m := by
  obtain ⟨s, l, _⟩ := least_ok g
  have rows : ∀ r ∈ leastA t m, ∃ a : Nat, a < (leastP t m).2.length ∧ r = (leastP t m).2.getD a [] := fun r hr => by
    obtain ⟨a, ha, e⟩ := List.mem_iff_getElem.mp (show r ∈ (leastP t m).2 from hr)
    exact ⟨a, ha, by rw [List.getD_eq_getElem?_getD, List.getElem?_eq_getElem ha]; exact e.symm⟩
  refine ⟨g.hm, ?_, ?_, fun r hr => ?_, fun r hr x hx => ?_⟩
  · show 1 ≤ (leastP t m).2.length
    have := s.met.pos
    omega
  · show (leastP t m).2.length ≤ 1000
    have := s.met.le
    have := g.n2
    omega
  · obtain ⟨a, ha, rfl⟩ := rows r hr
    rw [(s.ok a ha).1]
    exact g.rl _ (rowOf_mem (s.met.at (by omega)))
  · obtain ⟨a, ha, rfl⟩ := rows r hr
    obtain ⟨i, hi, e⟩ := List.mem_iff_getElem.mp hx
    have o := s.ok a ha
    obtain ⟨_, b, c, _⟩ := o.2 i (by rw [← o.1]; exact hi)
    have ex : x = ((leastP t m).2.getD a []).getD i 0 := by rw [List.getD_eq_getElem?_getD, List.getElem?_eq_getElem hi]; exact e.symm
    rw [← ex] at b c
    exact ⟨b, by show x < ((leastP t m).2.length : Nat); omega⟩
/-- a word leads alike through the least table -/
theorem least_run (g : GT t m) : ∀ (w : List Int) (a : Nat), a < (leastP t m).1.length → Signs m w → ∀ j : Int, Ali t m ((leastP t m).1.getD a 0) j → (runT (leastA t m) a w < 0 ↔ runT t j w < 0)
  | [], a, ha, _, j, h => by
    obtain ⟨s, _, _⟩ := least_ok g
    have := h.neg
    have := s.met.at ha
    show (a : Int) < 0 ↔ j < 0
    omega
  | x :: w, a, ha, hw, j, h => by
    obtain ⟨s, l, _⟩ := least_ok g
    have hx := hw x (List.mem_cons_self ..)
    have hw' : Signs m w := fun k hk => hw k (List.mem_cons_of_mem _ hk)
    have o := s.ok a (by omega)
    have hi := s.met.at ha
    have lr := g.rl _ (rowOf_mem hi)
    obtain ⟨o1, o2, o3, o4⟩ := o.2 x.toNat (by omega)
    have e1 : stp (leastA t m) a x = ((leastP t m).2.getD a []).getD x.toNat 0 := by
      rw [stp_pos (by omega)]
      show ((leastP t m).2.getD (a : Int).toNat []).getD x.toNat (-1) = _
      rw [Int.toNat_natCast]
      exact getD_dd (by rw [o.1]; omega)
    have e2 : stp t ((leastP t m).1.getD a 0) x = (rowOf t ((leastP t m).1.getD a 0)).getD x.toNat 0 := by
      rw [stp_pos hi.1]
      exact getD_dd (by omega)
    have hj := h.stp hx
    show runT (leastA t m) (stp (leastA t m) a x) w < 0 ↔ runT t (stp t j x) w < 0
    rw [e1]
    by_cases c : ((leastP t m).2.getD a []).getD x.toNat 0 < 0
    · have cj : stp t j x < 0 := by
        have := o1.mp c
        rw [← e2] at this
        exact hj.neg.mp this
      exact ⟨fun _ => runT_neg cj, fun _ => runT_neg c⟩
    · have o5 := o4 (by omega)
      rw [← e2] at o5
      have := least_run g w (((leastP t m).2.getD a []).getD x.toNat 0).toNat (by omega) hw' (stp t j x) (o5.trans hj)
      rw [show (((((leastP t m).2.getD a []).getD x.toNat 0).toNat : Nat) : Int) = ((leastP t m).2.getD a []).getD x.toNat 0 by omega] at this
      exact this
theorem least_ali (g : GT t m) {a b : Nat} (ha : a < (leastP t m).1.length) (hb : b < (leastP t m).1.length) : Ali (leastA t m) m a b ↔ a = b := by
  obtain ⟨s, l, _⟩ := least_ok g
  refine ⟨fun h => s.met.one ha hb fun w hw => ?_, fun h => by rw [h]; exact Ali.refl⟩
  exact (least_run g w a ha hw _ Ali.refl).symm.trans ((h w hw).trans (least_run g w b hb hw _ Ali.refl))
theorem least_words (g : GT t m) {w : List Int} (hw : Signs m w) : runT (leastA t m) 0 w < 0 ↔ runT t 0 w < 0 := by
  obtain ⟨s, l, hd⟩ := least_ok g
  have e0 : (leastP t m).1.getD 0 0 = 0 := by
    cases e : (leastP t m).1 with
    | nil => rfl
    | cons a r =>
      rw [e] at hd
      cases hd
      rfl
  exact least_run g w 0 s.met.pos hw 0 (by rw [e0]; exact Ali.refl)
/-! ### the least table of the least table -/
/-- a visit in the one goes as the visit in the other -/
theorem vis_twin (g : GT t m) {p : List Int × List Int} {to v : Int} (hp : p.1.length ≤ (leastP t m).1.length) (hv1 : -1 ≤ v) (hv : (v < p.1.length ∧ q1 = p.1) ∨ (v = p.1.length ∧ q1 = p.1 ++ [to])) (hq : q1.length ≤ (leastP t m).1.length) (row : List Int) :
    visA (leastA t m) m (upto p.1.length, row) v = (upto q1.length, row ++ [v]) := by
  unfold visA
  have al : ∀ a b : Nat, a < (leastP t m).1.length → b < (leastP t m).1.length → (aliB (leastA t m) m a b = true ↔ a = b) := fun a b ha hb => aliB_iff.trans (least_ali g ha hb)
  by_cases c : v < 0
  · rw [if_pos c]
    rcases hv with ⟨_, rfl⟩ | ⟨h, _⟩
    · rw [show v = -1 by omega]
    · omega
  · rw [if_neg c]
    rcases hv with ⟨h, rfl⟩ | ⟨h, rfl⟩
    · have e : spotA (leastA t m) m (upto p.1.length) v = some v.toNat := by
        refine List.findIdx?_eq_some_iff_getElem.mpr ⟨by rw [upto_len]; omega, ?_, fun j hj => ?_⟩
        · show aliB (leastA t m) m ((upto p.1.length)[v.toNat]'(by rw [upto_len]; omega)) v = true
          have e1 : (upto p.1.length)[v.toNat]'(by rw [upto_len]; omega) = v := by
            have := upto_at (n := p.1.length) (i := v.toNat) (d := 0) (by omega)
            rw [List.getD_eq_getElem?_getD, List.getElem?_eq_getElem (by rw [upto_len]; omega)] at this
            rw [show (upto p.1.length)[v.toNat]'(by rw [upto_len]; omega) = ((v.toNat : Nat) : Int) from this]
            omega
          rw [e1]
          exact aliB_iff.mpr Ali.refl
        · have e1 : (upto p.1.length)[j]'(by rw [upto_len]; omega) = (j : Int) := by
            have := upto_at (n := p.1.length) (i := j) (d := 0) (by omega)
            rw [List.getD_eq_getElem?_getD, List.getElem?_eq_getElem (by rw [upto_len]; omega)] at this
            exact this
          rw [e1]
          intro z
          have := (al j v.toNat (by omega) (by omega)).mp (by rw [show ((v.toNat : Nat) : Int) = v by omega]; exact z)
          omega
      rw [e]
      show (upto p.1.length, row ++ [((v.toNat : Nat) : Int)]) = _
      rw [show ((v.toNat : Nat) : Int) = v by omega]
    · have hl : (p.1 ++ [to]).length = p.1.length + 1 := by rw [List.length_append]; rfl
      rw [hl] at hq ⊢
      have e : spotA (leastA t m) m (upto p.1.length) v = none := by
        refine List.findIdx?_eq_none_iff.mpr fun x hx => ?_
        obtain ⟨j, hj, rfl⟩ := List.mem_map.mp hx
        have hj := List.mem_range.mp hj
        cases z : aliB (leastA t m) m (j : Int) v with
        | false => rfl
        | true =>
          have := (al j p.1.length (by omega) (by omega)).mp (by rw [← h]; exact z)
          omega
      rw [e, upto_succ, upto_len, h]
end
end PD
set_option Elab.async false
set_option linter.all false
set_option maxRecDepth 100000
set_option maxHeartbeats 2000000
/-! PD63: the least table's least table is itself. -/
namespace PD
open PySem PySem.Spec L2
section
variable {t : List (List Int)} {m : Int}
theorem fold_ext : ∀ (rest : List Int) (p : List Int × List Int), (∃ e, (rest.foldl (visA t m) p).1 = p.1 ++ e) ∧ ∃ e, (rest.foldl (visA t m) p).2 = p.2 ++ e
  | [], p => ⟨⟨[], (List.append_nil _).symm⟩, [], (List.append_nil _).symm⟩
  | to :: rest, p => by
    obtain ⟨⟨e1, h1⟩, e2, h2⟩ := fold_ext rest (visA t m p to)
    have hv : (∃ e, (visA t m p to).1 = p.1 ++ e) ∧ ∃ e, (visA t m p to).2 = p.2 ++ e := by
      unfold visA
      split
      · exact ⟨⟨[], (List.append_nil _).symm⟩, _, rfl⟩
      · split
        · exact ⟨⟨[], (List.append_nil _).symm⟩, _, rfl⟩
        · exact ⟨⟨_, rfl⟩, _, rfl⟩
    obtain ⟨⟨e3, h3⟩, e4, h4⟩ := hv
    exact ⟨⟨e3 ++ e1, by show (rest.foldl (visA t m) (visA t m p to)).1 = _; rw [h1, h3, List.append_assoc]⟩, e4 ++ e2, by show (rest.foldl (visA t m) (visA t m p to)).2 = _; rw [h2, h4, List.append_assoc]⟩
theorem fold_twin (g : GT t m) : ∀ (rest : List Int) (p : List Int × List Int), Met t m p.1 → (∀ x ∈ rest, -1 ≤ x ∧ x < t.length) → (rest.foldl (visA t m) p).1.length ≤ (leastP t m).1.length →
    ∃ vs, (rest.foldl (visA t m) p).2 = p.2 ++ vs ∧ ∀ row, vs.foldl (visA (leastA t m) m) (upto p.1.length, row) = (upto (rest.foldl (visA t m) p).1.length, row ++ vs)
  | [], p, _, _, _ => ⟨[], (List.append_nil _).symm, fun row => by rw [List.append_nil]; rfl⟩
  | to :: rest, p, h, hx, hl => by
    have hl : (rest.foldl (visA t m) (visA t m p to)).1.length ≤ (leastP t m).1.length := hl
    obtain ⟨h1, ⟨e, he⟩, v, hv, v1, v2, v3, v4, v5⟩ := vis_ok h (hx to (List.mem_cons_self ..))
    obtain ⟨⟨e1, k1⟩, _⟩ := fold_ext (t := t) (m := m) rest (visA t m p to)
    have hb : (visA t m p to).1.length ≤ (leastP t m).1.length := by
      rw [k1, List.length_append] at hl
      omega
    have ha : p.1.length ≤ (leastP t m).1.length := by
      rw [he, List.length_append] at hb
      omega
    obtain ⟨vs, k2, k3⟩ := fold_twin g rest (visA t m p to) h1 (fun x hx' => hx x (List.mem_cons_of_mem _ hx')) hl
    refine ⟨v :: vs, ?_, fun row => ?_⟩
    · show (rest.foldl (visA t m) (visA t m p to)).2 = _
      rw [k2, hv, List.append_assoc]
      rfl
    · show vs.foldl (visA (leastA t m) m) (visA (leastA t m) m (upto p.1.length, row) v) = _
      rw [vis_twin (q1 := (visA t m p to).1) g ha v2 v5 hb row, k3, List.append_assoc]
      rfl
theorem lrun_ext : ∀ (k : Nat) (p : List Int × List (List Int)), (∃ e, (lrun t m k p).1 = p.1 ++ e) ∧ ∃ e, (lrun t m k p).2 = p.2 ++ e
  | 0, p => ⟨⟨[], (List.append_nil _).symm⟩, [], (List.append_nil _).symm⟩
  | k + 1, p => by
    unfold lrun
    split
    · obtain ⟨⟨e1, h1⟩, e2, h2⟩ := lrun_ext k (stepA t m p)
      obtain ⟨⟨e3, h3⟩, _⟩ := fold_ext (t := t) (m := m) (rowOf t (p.1.getD p.2.length 0)) (p.1, [])
      have h3 : (stepA t m p).1 = p.1 ++ e3 := h3
      refine ⟨⟨e3 ++ e1, by rw [h1, h3, List.append_assoc]⟩, [((rowOf t (p.1.getD p.2.length 0)).foldl (visA t m) (p.1, [])).2] ++ e2, by rw [h2, ← List.append_assoc]; rfl⟩
    · exact ⟨⟨[], (List.append_nil _).symm⟩, [], (List.append_nil _).symm⟩
theorem lrun_twin (g : GT t m) : ∀ (k : Nat) (p : List Int × List (List Int)), StA t m p → lrun t m k p = leastP t m → lrun (leastA t m) m k (upto p.1.length, p.2) = (upto (leastP t m).1.length, (leastP t m).2)
  | 0, p, s, h => by
    have h : p = leastP t m := h
    show (upto p.1.length, p.2) = _
    rw [h]
  | k + 1, p, s, h => by
    unfold lrun at h ⊢
    have eu : (upto p.1.length).length = p.1.length := upto_len
    show (if p.2.length < (upto p.1.length).length then lrun (leastA t m) m k (stepA (leastA t m) m (upto p.1.length, p.2)) else (upto p.1.length, p.2)) = _
    rw [eu]
    by_cases c : p.2.length < p.1.length
    · rw [if_pos c] at h ⊢
      obtain ⟨s1, _, _, _⟩ := s.step g c
      obtain ⟨⟨e1, h1⟩, e2, h2⟩ := lrun_ext (t := t) (m := m) k (stepA t m p)
      rw [h] at h1 h2
      have hle : (stepA t m p).1.length ≤ (leastP t m).1.length := by rw [h1, List.length_append]; omega
      obtain ⟨vs, k2, k3⟩ := fold_twin g (rowOf t (p.1.getD p.2.length 0)) (p.1, []) s.met (row_rg g (s.met.at c)) hle
      have k2 : ((rowOf t (p.1.getD p.2.length 0)).foldl (visA t m) (p.1, [])).2 = vs := k2
      have er : (leastA t m).getD p.2.length [] = vs := by
        show (leastP t m).2.getD p.2.length [] = vs
        rw [h2, show (stepA t m p).2 = p.2 ++ [((rowOf t (p.1.getD p.2.length 0)).foldl (visA t m) (p.1, [])).2] from rfl, k2, List.append_assoc, List.getD_eq_getElem?_getD, List.getElem?_append_right (Nat.le_refl _), Nat.sub_self]
        rfl
      have es : stepA (leastA t m) m (upto p.1.length, p.2) = (upto (stepA t m p).1.length, (stepA t m p).2) := by
        unfold stepA
        show ((((rowOf (leastA t m) ((upto p.1.length).getD p.2.length 0)).foldl (visA (leastA t m) m) (upto p.1.length, [])).1), p.2 ++ [((rowOf (leastA t m) ((upto p.1.length).getD p.2.length 0)).foldl (visA (leastA t m) m) (upto p.1.length, [])).2]) = _
        rw [upto_at c]
        have e4 : rowOf (leastA t m) (p.2.length : Nat) = vs := by
          unfold rowOf
          rw [Int.toNat_natCast]
          exact er
        rw [e4, k3 [], List.nil_append, k2]
      rw [es]
      exact lrun_twin g k _ s1 h
    · rw [if_neg c] at h ⊢
      rw [h]
theorem lrun_stop {k : Nat} {p : List Int × List (List Int)} (h : ¬ p.2.length < p.1.length) : lrun t m k p = p := by
  cases k with
  | zero => rfl
  | succ k =>
    unfold lrun
    exact if_neg h
theorem lrun_add : ∀ (a b : Nat) (p : List Int × List (List Int)), lrun t m (a + b) p = lrun t m b (lrun t m a p)
  | 0, b, p => by rw [Nat.zero_add]; rfl
  | a + 1, b, p => by
    rw [Nat.succ_add]
    by_cases c : p.2.length < p.1.length
    · have e1 : lrun t m (a + b + 1) p = lrun t m (a + b) (stepA t m p) := if_pos c
      have e2 : lrun t m (a + 1) p = lrun t m a (stepA t m p) := if_pos c
      show lrun t m (a + b + 1) p = _
      rw [e1, e2]
      exact lrun_add a b _
    · rw [lrun_stop c, lrun_stop (k := a + 1) c, lrun_stop c]
/-- once is enough -/
theorem least_twice (g : GT t m) : leastA (leastA t m) m = leastA t m := by
  have g' := least_gt g
  obtain ⟨s, l, _⟩ := least_ok g
  obtain ⟨s', l', _⟩ := least_ok g'
  have e := lrun_twin g (t.length + 1) ([0], []) (StA.start g) rfl
  have hle : (leastA t m).length ≤ t.length := by
    show (leastP t m).2.length ≤ _
    have := s.met.le
    omega
  have e2 : lrun (leastA t m) m (t.length + 1) ([0], []) = leastP (leastA t m) m := by
    rw [show t.length + 1 = ((leastA t m).length + 1) + (t.length - (leastA t m).length) by omega, lrun_add]
    exact lrun_stop (by show ¬ (leastP (leastA t m) m).2.length < (leastP (leastA t m) m).1.length; omega)
  have e3 : (upto ([0] : List Int).length, ([] : List (List Int))) = (([0] : List Int), ([] : List (List Int))) := rfl
  rw [e3, e2] at e
  show (leastP (leastA t m) m).2 = (leastP t m).2
  rw [e]
end
end PD
set_option Elab.async false
set_option linter.all false
set_option maxRecDepth 100000
set_option maxHeartbeats 2000000
/-! PD64: tables as data. -/
namespace L2
open PySem PySem.Spec
theorem Room.u1 {k : Nat} {A : Around} (r : Room k A) : A.units + 1 < cLine := by have := r.un; omega
theorem Room.u65 {k : Nat} {A : Around} (r : Room k A) : A.units + 65 < cLine := by have := r.un; omega
end L2
namespace PD
open PySem PySem.Spec L2
def rowD (r : List Int) : D := .tup (r.map .int)
section
variable {t : List (List Int)} {m i s : Int}
theorem tabs_len : (t.map rowD).length = t.length := List.length_map ..
theorem tab_row (h : 0 ≤ i ∧ i < t.length) : atI (t.map rowD) i = some (rowD (rowOf t i)) := by
  have e : (t.map rowD)[i.toNat]? = some (rowD (rowOf t i)) := by
    rw [List.getElem?_map, List.getElem?_eq_getElem (by omega)]
    unfold rowOf
    rw [List.getD_eq_getElem?_getD, List.getElem?_eq_getElem (by omega)]
    rfl
  have := atI_nat e
  rw [show ((i.toNat : Nat) : Int) = i by omega] at this
  exact this
theorem dIx_tab {Q : R → Prop} (h : 0 ≤ i ∧ i < t.length) (q : Q (.fz (rowD (rowOf t i)))) : dIx (tabD t) (.int i) Q := dIx_seq (x := tabD t) (l := t.map rowD) rfl (tab_row h) q
theorem dIx_row {r : List Int} {Q : R → Prop} (h : 0 ≤ s ∧ s < r.length) (q : Q (.fz (.int (r.getD s.toNat 0)))) : dIx (rowD r) (.int s) Q := dIx_seq (x := rowD r) (l := r.map .int) rfl (list_at h.1 h.2) q
theorem dIx_ints {r : List Int} {Q : R → Prop} (h : 0 ≤ s ∧ s < r.length) (q : Q (.fz (.int (r.getD s.toNat 0)))) : dIx (.lst (r.map .int)) (.int s) Q := dIx_seq (x := .lst (r.map .int)) (l := r.map .int) rfl (list_at h.1 h.2) q
theorem row_lens (g : GT t m) (h : 0 ≤ i ∧ i < t.length) : ((rowOf t i).length : Int) = m := g.rl _ (rowOf_mem h)
theorem row_at (g : GT t m) (h : 0 ≤ i ∧ i < t.length) (hs : 0 ≤ s ∧ s < m) : (rowOf t i).getD s.toNat 0 = stp t i s := by
  rw [stp_pos h.1]
  exact getD_dd (by have := row_lens g h; omega)
theorem runT_take {w : List Int} {k : Nat} {x : Int} (h : w[k]? = some x) : runT t i (w.take (k + 1)) = stp t (runT t i (w.take k)) x := by
  unfold runT
  rw [List.take_add_one, h, List.foldl_append]
  rfl
theorem runT_rg (g : GT t m) : ∀ {w : List Int} {i : Int}, -1 ≤ i ∧ i < t.length → Signs m w → -1 ≤ runT t i w ∧ runT t i w < t.length
  | [], i, h, _ => h
  | x :: w, i, h, hw => by
    refine runT_rg g (w := w) (i := stp t i x) ?_ fun k hk => hw k (List.mem_cons_of_mem _ hk)
    by_cases c : i < 0
    · rw [stp_neg c]
      have := g.n1
      omega
    · exact stp_rg g ⟨by omega, h.2⟩ (hw x (List.mem_cons_self ..))
theorem ixN_in {n : Nat} {k : Int} (h : 0 ≤ k ∧ k < n) : ixN n k = some k.toNat := by
  unfold ixN
  rw [if_pos (by omega), if_pos (by omega)]
theorem mem_rowOf {r : List Int} (h : r ∈ t) : ∃ i : Nat, i < t.length ∧ r = rowOf t i := by
  obtain ⟨i, hi, e⟩ := List.mem_iff_getElem.mp h
  refine ⟨i, hi, ?_⟩
  unfold rowOf
  rw [Int.toNat_natCast, List.getD_eq_getElem?_getD, List.getElem?_eq_getElem hi]
  exact e.symm
end
end PD
set_option Elab.async false
set_option linter.all false
set_option maxRecDepth 100000
set_option maxHeartbeats 2000000
/-! PD65: rows told apart by pairs of rows met. -/
namespace PD
open PySem PySem.Spec L2
theorem nodup_leA {α : Type} [DecidableEq α] {a b : List α} (ha : a.Nodup) (h : ∀ k, k ∈ a → k ∈ b) : a.length ≤ b.length := by
  induction a generalizing b with
  | nil => exact Nat.zero_le _
  | cons x a ih =>
    have hx := h x (List.mem_cons_self ..)
    have hn' := List.nodup_cons.mp ha
    have := ih (b := b.erase x) hn'.2 fun k hk => (List.mem_erase_of_ne (fun z => hn'.1 (by rw [← z]; exact hk))).mpr (h k (List.mem_cons_of_mem _ hk))
    rw [List.length_erase_of_mem hx] at this
    have p := List.length_pos_of_mem hx
    rw [List.length_cons]
    omega
theorem nbs_words : ∀ ws : List (List Int), nbs (ws.map wordD) = true
  | [] => rfl
  | w :: ws => by
    show ((wordD w).nb && nbs (ws.map wordD)) = true
    rw [nbs_words ws, show (wordD w).nb = true from nb_word]
    rfl
theorem eqok_words {ws : List (List Int)} : eqok (.lst (ws.map wordD)) := eqok_of (nb_flat _ (show (D.lst (ws.map wordD)).nb = true from nbs_words ws)) (by
  have := deps_words (l := ws)
  show deps (ws.map wordD) + 1 ≤ 64
  omega)
theorem eqok_wordD {w : List Int} : eqok (wordD w) := eqok_of (nb_flat _ nb_word) (by rw [show (wordD w).dep = 1 from dep_word]; decide)
theorem wordD_inj {v w : List Int} (h : wordD v = wordD w) : v = w := ints_inj (D.tup.inj h)
theorem any_words {ws : List (List Int)} {w : List Int} : ((ws.map wordD).any fun z => eqv z (wordD w)) = decide (w ∈ ws) := by
  by_cases c : w ∈ ws
  · rw [decide_eq_true c, List.any_eq_true]
    exact ⟨wordD w, List.mem_map.mpr ⟨w, c, rfl⟩, (eqv_iff _ _ nb_word nb_word).mpr rfl⟩
  · rw [decide_eq_false c, List.any_eq_false]
    intro z hz
    obtain ⟨v, hv, rfl⟩ := List.mem_map.mp hz
    intro e
    have := wordD_inj ((eqv_iff _ _ nb_word nb_word).mp e)
    exact c (by rw [← this]; exact hv)
def grid (n : Nat) : List (List Int) := (upto n).flatMap fun a => (upto n).map fun b => [a, b]
theorem grid_len (n : Nat) : (grid n).length = n * n := by
  unfold grid
  rw [List.length_flatMap]
  have : ((upto n).map fun a => ((upto n).map fun b => [a, b]).length) = List.replicate n n := by
    rw [List.eq_replicate_iff]
    refine ⟨by rw [List.length_map, upto_len], fun b hb => ?_⟩
    obtain ⟨x, _, rfl⟩ := List.mem_map.mp hb
    rw [List.length_map, upto_len]
  rw [this, List.sum_replicate_nat]
theorem upto_mem {n : Nat} {x : Int} (h : 0 ≤ x ∧ x < n) : x ∈ upto n := List.mem_map.mpr ⟨x.toNat, List.mem_range.mpr (by omega), by show ((x.toNat : Nat) : Int) = x; omega⟩
section
variable {t : List (List Int)} {m i j : Int} {ws : List (List Int)}
/-- pairs of rows to which the same word leads -/
structure Prr (t : List (List Int)) (m i j : Int) (ws : List (List Int)) : Prop where
  nd : ws.Nodup
  ok : ∀ w ∈ ws, ∃ x y : Int, w = [x, y] ∧ (0 ≤ x ∧ x < t.length) ∧ (0 ≤ y ∧ y < t.length) ∧ ∃ v, Signs m v ∧ runT t i v = x ∧ runT t j v = y
  hd : [i, j] ∈ ws
def Clo (ws : List (List Int)) (x y : Int) : Prop := (x < 0 ↔ y < 0) ∧ (0 ≤ x → [x, y] ∈ ws)
theorem Clo.more {e : List (List Int)} {x y : Int} (h : Clo ws x y) : Clo (ws ++ e) x y := ⟨h.1, fun z => List.mem_append_left _ (h.2 z)⟩
theorem Prr.le (p : Prr t m i j ws) : ws.length ≤ t.length * t.length := by
  have := nodup_leA p.nd (b := grid t.length) fun w hw => by
    obtain ⟨x, y, rfl, hx, hy, _⟩ := p.ok w hw
    exact List.mem_flatMap.mpr ⟨x, upto_mem hx, List.mem_map.mpr ⟨y, upto_mem hy, rfl⟩⟩
  rw [grid_len] at this
  exact this
theorem Prr.start (hi : 0 ≤ i ∧ i < t.length) (hj : 0 ≤ j ∧ j < t.length) : Prr t m i j [[i, j]] :=
  ⟨by simp, fun w hw => by rw [List.mem_singleton.mp hw]; exact ⟨i, j, rfl, hi, hj, [], (fun k hk => by cases hk), rfl, rfl⟩, List.mem_cons_self ..⟩
theorem runT_snoc {v : List Int} {s : Int} : runT t i (v ++ [s]) = stp t (runT t i v) s := by
  unfold runT
  rw [List.foldl_append]
  rfl
theorem signs_snoc {v : List Int} {s : Int} (h : Signs m v) (hs : 0 ≤ s ∧ s < m) : Signs m (v ++ [s]) := fun k hk => by
  rcases List.mem_append.mp hk with hk | hk
  · exact h k hk
  · rw [List.mem_singleton.mp hk]; exact hs
theorem Prr.add (g : GT t m) (p : Prr t m i j ws) {x y s : Int} (hw : [x, y] ∈ ws) (hs : 0 ≤ s ∧ s < m) (h1 : 0 ≤ stp t x s) (h2 : 0 ≤ stp t y s) (no : [stp t x s, stp t y s] ∉ ws) : Prr t m i j (ws ++ [[stp t x s, stp t y s]]) := by
  refine ⟨?_, fun w hw' => ?_, List.mem_append_left _ p.hd⟩
  · rw [List.nodup_append]
    exact ⟨p.nd, by simp, fun a ha b hb e => no (by rw [← List.mem_singleton.mp hb, ← e]; exact ha)⟩
  · rcases List.mem_append.mp hw' with h | h
    · exact p.ok w h
    · rw [List.mem_singleton.mp h]
      obtain ⟨x', y', e, hx, hy, v, sv, r1, r2⟩ := p.ok _ hw
      cases e
      exact ⟨_, _, rfl, ⟨h1, (stp_rg g hx hs).2⟩, ⟨h2, (stp_rg g hy hs).2⟩, v ++ [s], signs_snoc sv hs, by rw [runT_snoc, r1], by rw [runT_snoc, r2]⟩
theorem Prr.apart (p : Prr t m i j ws) {x y s : Int} (hw : [x, y] ∈ ws) (hs : 0 ≤ s ∧ s < m) (n : ¬ (stp t x s < 0 ↔ stp t y s < 0)) : aliB t m i j = false := by
  cases e : aliB t m i j with
  | false => rfl
  | true =>
    obtain ⟨x', y', e', hx, hy, v, sv, r1, r2⟩ := p.ok _ hw
    cases e'
    have := aliB_iff.mp e (v ++ [s]) (signs_snoc sv hs)
    rw [runT_snoc, runT_snoc, r1, r2] at this
    exact absurd this n
theorem Prr.alike (p : Prr t m i j ws) (h : ∀ x y : Int, [x, y] ∈ ws → ∀ s, 0 ≤ s → s < m → Clo ws (stp t x s) (stp t y s)) : aliB t m i j = true := by
  have key : ∀ v : List Int, Signs m v → ∀ x y : Int, [x, y] ∈ ws → (runT t x v < 0 ↔ runT t y v < 0) := by
    intro v
    induction v with
    | nil =>
      intro _ x y hw
      obtain ⟨x', y', e', hx, hy, _⟩ := p.ok _ hw
      cases e'
      show x < 0 ↔ y < 0
      omega
    | cons s v ih =>
      intro sv x y hw
      have hs := sv s (List.mem_cons_self ..)
      obtain ⟨c1, c2⟩ := h x y hw s hs.1 hs.2
      show runT t (stp t x s) v < 0 ↔ runT t (stp t y s) v < 0
      by_cases c : stp t x s < 0
      · exact ⟨fun _ => runT_neg (c1.mp c), fun _ => runT_neg c⟩
      · exact ih (fun k hk => sv k (List.mem_cons_of_mem _ hk)) _ _ (c2 (by omega))
  exact aliB_iff.mpr fun v sv => key v sv i j p.hd
end
end PD
set_option Elab.async false
set_option linter.all false
set_option maxRecDepth 100000
set_option maxHeartbeats 2000000
/-! PD66: comprehensions with a test; the first spot. -/
namespace PD
open PySem PySem.Spec L2
section
variable {wg : WG} {wt : WT} {we : WE} {vs : List Nat} {K : List D → Mu → Prop} {env : Ev} {μ : Mu}
theorem lcl_filter (p : D → Bool) (g : D → D) : ∀ (l acc : List D), (∀ d ∈ l, ∀ (A : D → Mu → Prop) (Z : Mu → Prop), (p d = true → A (g d) μ) → (p d = false → Z μ) →
      wg d (wipeE env vs) fun env' => wt env' μ (fun b μ1 => if b = true then we env' μ1 (fun r μ2 => r.still fun y => A y μ2) noX else Z μ1) noX) →
    acc.length + l.length ≤ sizeLine → K (acc ++ (l.filter p).map g) μ → wLcL wg wt we vs K env l acc μ
  | [], acc, _, _, k => by
    rw [List.filter_nil, List.map_nil, List.append_nil] at k
    exact k
  | d :: l, acc, h, hl, k => by
    have hl' : acc.length + (l.length + 1) ≤ sizeLine := hl
    refine h d (List.mem_cons_self ..) (fun y μ2 => acc.length < sizeLine ∧ wLcL wg wt we vs K env l (acc ++ [y]) μ2) (fun μ1 => wLcL wg wt we vs K env l acc μ1) (fun c => ⟨by omega, ?_⟩) fun c => ?_
    · refine lcl_filter p g l (acc ++ [g d]) (fun d' hd' => h d' (List.mem_cons_of_mem _ hd')) (by rw [List.length_append]; show acc.length + 1 + l.length ≤ sizeLine; omega) ?_
      rw [List.filter_cons_of_pos c, List.map_cons] at k
      rw [List.append_assoc]
      exact k
    · refine lcl_filter p g l acc (fun d' hd' => h d' (List.mem_cons_of_mem _ hd')) (by omega) ?_
      rw [List.filter_cons_of_neg (by rw [c]; decide)] at k
      exact k
end
/-- the spots of rows met that are alike -/
noncomputable def spots (t : List (List Int)) (m : Int) (q : List Int) (to : Int) : List Int := ((List.range q.length).filter fun s => decide (0 ≤ to) && aliB t m (q.getD s 0) to).map fun s : Nat => (s : Int)
theorem spots_neg {t : List (List Int)} {m : Int} {q : List Int} {to : Int} (h : to < 0) : spots t m q to = [] := by
  unfold spots
  rw [List.filter_eq_nil_iff.mpr fun s _ => by rw [decide_eq_false (by omega), Bool.false_and]; decide]
  rfl
theorem spots_head {t : List (List Int)} {m : Int} {q : List Int} {to : Int} (h : 0 ≤ to) : (spots t m q to).head? = (spotA t m q to).map fun s : Nat => (s : Int) := by
  unfold spots
  rw [List.head?_map, List.head?_filter]
  congr 1
  cases e : spotA t m q to with
  | none =>
    rw [List.find?_eq_none]
    intro s hs
    have hn := spot_none e (q.getD s 0) (getD_in (List.mem_range.mp hs))
    have : aliB t m (q.getD s 0) to = false := by
      cases z : aliB t m (q.getD s 0) to with
      | false => rfl
      | true => exact absurd (aliB_iff.mp z) hn
    rw [this, Bool.and_false]
    decide
  | some x =>
    obtain ⟨hx, h1, h2⟩ := List.findIdx?_eq_some_iff_getElem.mp e
    have gd : ∀ {s : Nat} (hs : s < q.length), q.getD s 0 = q[s] := fun {s} hs => by
      rw [List.getD_eq_getElem?_getD, List.getElem?_eq_getElem hs]
      rfl
    rw [List.find?_range_eq_some]
    refine ⟨?_, List.mem_range.mpr hx, fun j hj => ?_⟩
    · rw [gd hx, decide_eq_true h, h1]
      rfl
    · have := h2 j hj
      rw [gd (by omega)]
      cases z : aliB t m (q[j]'(by omega)) to with
      | false => rw [Bool.and_false]; rfl
      | true => exact absurd z this
noncomputable def spotP (t : List (List Int)) (m : Int) (q : List Int) (to : Int) : D → Bool
  | .int s => decide (0 ≤ to) && aliB t m (q.getD s.toNat 0) to
  | _ => false
theorem spots_D {t : List (List Int)} {m : Int} {q : List Int} {to : Int} : ((List.range q.length).map fun i : Nat => D.int (i : Int)).filter (spotP t m q to) = (spots t m q to).map .int := by
  unfold spots
  rw [List.filter_map, List.map_map]
  rfl
theorem spots_le {t : List (List Int)} {m : Int} {q : List Int} {to : Int} : (spots t m q to).length ≤ q.length := by
  unfold spots
  rw [List.length_map]
  exact Nat.le_trans (List.length_filter_le ..) (by rw [List.length_range]; exact Nat.le_refl _)
theorem eqokI {l : List Int} : eqok (.lst (l.map .int)) := eqok_of (nb_flat _ nb_list) (by
  show deps (l.map .int) + 1 ≤ 64
  rw [deps_ints]
  decide)
theorem eqv_nilI {l : List Int} : eqv (.lst (l.map .int)) (.lst []) = decide (l = []) := by
  by_cases c : l = []
  · subst c
    rw [decide_eq_true rfl]
    exact (eqv_iff _ _ (nb_list (ks := [])) (nb_list (ks := []))).mpr rfl
  · rw [decide_eq_false c]
    cases e : eqv (.lst (l.map .int)) (.lst []) with
    | false => rfl
    | true =>
      have := (eqv_iff _ _ (nb_list (ks := l)) (nb_list (ks := []))).mp e
      exact absurd (ints_inj (ks := l) (js := []) (D.lst.inj this)) c
end PD
set_option Elab.async false
set_option linter.all false
set_option maxRecDepth 100000
set_option maxHeartbeats 2000000
/-! PD67: groups of a table's rows, as data. -/
namespace PD
open PySem PySem.Spec L2
def unI : D → Int
  | .int i => i
  | _ => 0
theorem unI_ints (l : List Int) : (l.map D.int).map unI = l := by
  rw [List.map_map]
  exact List.map_id l
def labF (gs : List Int) : D → D
  | .int to => .int (if to = -1 then -1 else gs.getD to.toNat 0)
  | d => d
def keyF (gs : List Int) : D → D
  | .tup [.int i, .tup l] => wordD (keyT gs (l.map unI) (gs.getD i.toNat 0))
  | d => d
def keysT (gs : List Int) (t : List (List Int)) : List (List Int) := (List.range t.length).map fun i : Nat => keyT gs (rowOf t (i : Int)) (gs.getD i 0)
theorem keysT_len {gs : List Int} {t : List (List Int)} : (keysT gs t).length = t.length := by
  unfold keysT
  rw [List.length_map, List.length_range]
theorem keysT_at {gs : List Int} {t : List (List Int)} {i : Nat} (h : i < t.length) : (keysT gs t)[i]? = some (keyT gs (rowOf t (i : Int)) (gs.getD i 0)) := by
  unfold keysT
  rw [List.getElem?_map, List.getElem?_range h]
  rfl
theorem enumT_at {t : List (List Int)} {i : Nat} (h : i < t.length) : (enumD (t.map rowD))[i]? = some (.tup [.int (i : Nat), rowD (rowOf t (i : Int))]) := by
  refine enumD_at ?_
  rw [List.getElem?_map, List.getElem?_eq_getElem h]
  unfold rowOf
  rw [Int.toNat_natCast, List.getD_eq_getElem?_getD, List.getElem?_eq_getElem h]
  rfl
theorem keys_D {gs : List Int} {t : List (List Int)} : (enumD (t.map rowD)).map (keyF gs) = (keysT gs t).map wordD := by
  apply List.ext_getElem?
  intro i
  rw [List.getElem?_map, List.getElem?_map]
  by_cases h : i < t.length
  · rw [enumT_at h, keysT_at h]
    show some (wordD (keyT gs (((rowOf t (i : Int)).map D.int).map unI) (gs.getD ((i : Nat) : Int).toNat 0))) = _
    rw [unI_ints, Int.toNat_natCast]
    rfl
  · rw [List.getElem?_eq_none (by rw [enumD_len, List.length_map]; omega), List.getElem?_eq_none (by rw [keysT_len]; omega)]
    rfl
theorem enumT_mem {t : List (List Int)} {d : D} (h : d ∈ enumD (t.map rowD)) : ∃ i : Nat, i < t.length ∧ d = .tup [.int (i : Nat), rowD (rowOf t (i : Int))] := by
  obtain ⟨i, hi⟩ := List.mem_iff_getElem?.mp h
  have hl : i < t.length := by
    have := (List.getElem?_eq_some_iff.mp hi).1
    rw [enumD_len, List.length_map] at this
    exact this
  rw [enumT_at hl] at hi
  exact ⟨i, hl, (Option.some.inj hi).symm⟩
def kW (w : List Int) : List Key := w.map .inl
theorem kW_inj {v w : List Int} (h : kW v = kW w) : v = w := List.map_inj_right (fun _ _ e => Sum.inl.inj e) |>.mp h
theorem kW_mem {w : List Int} {dd : List (List Int)} : kW w ∈ dd.map kW ↔ w ∈ dd := by
  rw [List.mem_map]
  exact ⟨fun ⟨v, hv, e⟩ => by rw [← kW_inj e]; exact hv, fun h => ⟨w, h, rfl⟩⟩
theorem look_off {w : List Int} : ∀ (dd : List (List Int)) (o : Nat), w ∈ dd → lookK (dd.map kW) ((List.range dd.length).map fun i : Nat => D.int ((o + i : Nat) : Int)) (kW w) = some (.int ((o + dd.idxOf w : Nat) : Int))
  | [], _, h => by cases h
  | v :: dd, o, h => by
    rw [List.length_cons, List.range_succ_eq_map, List.map_cons, List.map_cons, List.map_map]
    show (if kW v = kW w then some (D.int ((o + 0 : Nat) : Int)) else lookK (dd.map kW) ((List.range dd.length).map ((fun i : Nat => D.int ((o + i : Nat) : Int)) ∘ Nat.succ)) (kW w)) = _
    by_cases c : v = w
    · subst c
      rw [if_pos rfl, List.idxOf_cons_self]
    · have e0 : (v :: dd).idxOf w = dd.idxOf w + 1 := by
        rw [List.idxOf_cons, show (v == w) = false from beq_eq_false_iff_ne.mpr c]
        rfl
      rw [if_neg (fun e => c (kW_inj e)), e0]
      have hm : w ∈ dd := (List.mem_cons.mp h).resolve_left fun e => c e.symm
      have ih := look_off dd (o + 1) hm
      rw [show (fun i : Nat => D.int ((o + i : Nat) : Int)) ∘ Nat.succ = fun i : Nat => D.int ((o + 1 + i : Nat) : Int) from funext fun i => by show D.int ((o + (i + 1) : Nat) : Int) = _; rw [show o + (i + 1) = o + 1 + i by omega], ih]
      rw [show o + 1 + dd.idxOf w = o + (dd.idxOf w + 1) by omega]
theorem look_idx {w : List Int} {dd : List (List Int)} (h : w ∈ dd) : lookK (dd.map kW) ((upto dd.length).map .int) (kW w) = some (.int ((dd.idxOf w : Nat) : Int)) := by
  have := look_off dd 0 h
  unfold upto
  rw [List.map_map]
  rw [show (D.int ∘ fun i : Nat => (i : Int)) = fun i : Nat => D.int ((0 + i : Nat) : Int) from funext fun i => by show D.int (i : Int) = _; rw [Nat.zero_add]]
  rw [this, Nat.zero_add]
def numF (dd : List (List Int)) : D → D
  | .tup l => .int ((dd.idxOf (l.map unI) : Nat) : Int)
  | d => d
/-- the labels anew: by the place of the key -/
def numG (dd ks : List (List Int)) : List Int := ks.map fun w => ((dd.idxOf w : Nat) : Int)
theorem num_D {dd ks : List (List Int)} : (ks.map wordD).map (numF dd) = (numG dd ks).map .int := by
  unfold numG
  rw [List.map_map, List.map_map]
  refine List.map_congr_left fun w _ => ?_
  show D.int ((dd.idxOf ((w.map D.int).map unI) : Nat) : Int) = _
  rw [unI_ints]
  rfl
theorem idx_inj {dd : List (List Int)} {v w : List Int} (hv : v ∈ dd) (hw : w ∈ dd) (e : dd.idxOf v = dd.idxOf w) : v = w := by
  have h1 := List.idxOf_lt_length_of_mem hv
  have h2 := List.idxOf_lt_length_of_mem hw
  have a := List.getElem_idxOf h1
  have b := List.getElem_idxOf h2
  rw [← a, ← b]
  congr 1
theorem num_lab {t : List (List Int)} {m : Int} {k : Nat} {gs : List Int} {dd : List (List Int)} (T : GT t m) (L : Lab t m k gs) (hd : ∀ w ∈ keysT gs t, w ∈ dd) : Lab t m (k + 1) (numG dd (keysT gs t)) := by
  have at_ : ∀ i : Nat, i < t.length → (numG dd (keysT gs t)).getD i 0 = ((dd.idxOf (keyT gs (t.getD i []) (gs.getD i 0)) : Nat) : Int) ∧ keyT gs (t.getD i []) (gs.getD i 0) ∈ dd := fun i hi => by
    have e := keysT_at (gs := gs) hi
    have e' : rowOf t (i : Int) = t.getD i [] := rfl
    rw [e'] at e
    refine ⟨?_, hd _ (List.mem_of_getElem? e)⟩
    unfold numG
    rw [List.getD_eq_getElem?_getD, List.getElem?_map, e]
    rfl
  refine lab_next T L (by unfold numG; rw [List.length_map, keysT_len]) (fun x hx => ?_) fun i j hi hj => ?_
  · obtain ⟨w, _, rfl⟩ := List.mem_map.mp hx
    omega
  · obtain ⟨a1, a2⟩ := at_ i hi
    obtain ⟨b1, b2⟩ := at_ j hj
    rw [a1, b1]
    exact ⟨fun e => idx_inj a2 b2 (by omega), fun e => by rw [e]⟩
theorem dist_one {g : List Int} {a b : Nat} (h : Dist g a) (h' : Dist g b) : a = b := by
  obtain ⟨o, on, om⟩ := dedupL g
  rw [h o on om, h' o on om]
theorem lab_D {gs r : List Int} : (r.map D.int).map (labF gs) = (r.map fun to => if to = -1 then -1 else gs.getD to.toNat 0).map .int := by
  rw [List.map_map, List.map_map]
  exact List.map_congr_left fun _ _ => rfl
theorem kW_snoc {dd : List (List Int)} {w : List Int} : dd.map kW ++ [kW w] = (dd ++ [w]).map kW := by rw [List.map_append]; rfl
theorem upto_snoc {dd : List (List Int)} {w : List Int} : (upto dd.length).map D.int ++ [D.int ((dd.map kW).length : Nat)] = (upto (dd ++ [w]).length).map .int := by
  rw [List.length_append, List.length_map]
  show _ = (upto (dd.length + 1)).map D.int
  rw [upto_succ, List.map_append]
  rfl
end PD
set_option Elab.async false
set_option linter.all false
set_option maxRecDepth 100000
set_option maxHeartbeats 2000000
/-! PD68: labels as keys. -/
namespace PD
open PySem PySem.Spec L2
def gam (gs : List Int) (i : Int) : Int := gs.getD i.toNat 0
def kI (l : List Int) : List Key := l.map .inl
def numC (l : List Int) : Cont := .dic (kI l) ((upto l.length).map .int)
theorem kI_mem {v : Int} {l : List Int} : (Sum.inl v : Key) ∈ kI l ↔ v ∈ l := by
  unfold kI
  rw [List.mem_map]
  exact ⟨fun ⟨w, hw, e⟩ => by rw [← Sum.inl.inj e]; exact hw, fun h => ⟨v, h, rfl⟩⟩
theorem kI_len {l : List Int} : (kI l).length = l.length := List.length_map ..
theorem lookI_off {w : Int} : ∀ (dd : List Int) (o : Nat), w ∈ dd → lookK (kI dd) ((List.range dd.length).map fun i : Nat => D.int ((o + i : Nat) : Int)) (.inl w) = some (.int ((o + dd.idxOf w : Nat) : Int))
  | [], _, h => by cases h
  | v :: dd, o, h => by
    rw [List.length_cons, List.range_succ_eq_map, List.map_cons, List.map_map]
    show (if (Sum.inl v : Key) = .inl w then some (D.int ((o + 0 : Nat) : Int)) else lookK (kI dd) ((List.range dd.length).map ((fun i : Nat => D.int ((o + i : Nat) : Int)) ∘ Nat.succ)) (.inl w)) = _
    by_cases c : v = w
    · subst c
      rw [if_pos rfl, List.idxOf_cons_self]
    · have e0 : (v :: dd).idxOf w = dd.idxOf w + 1 := by
        rw [List.idxOf_cons, show (v == w) = false from beq_eq_false_iff_ne.mpr c]
        rfl
      rw [if_neg (fun e => c (Sum.inl.inj e)), e0]
      have hm : w ∈ dd := (List.mem_cons.mp h).resolve_left fun e => c e.symm
      have ih := lookI_off dd (o + 1) hm
      rw [show (fun i : Nat => D.int ((o + i : Nat) : Int)) ∘ Nat.succ = fun i : Nat => D.int ((o + 1 + i : Nat) : Int) from funext fun i => by show D.int ((o + (i + 1) : Nat) : Int) = _; rw [show o + (i + 1) = o + 1 + i by omega], ih]
      rw [show o + 1 + dd.idxOf w = o + (dd.idxOf w + 1) by omega]
theorem lookI_idx {w : Int} {dd : List Int} (h : w ∈ dd) : lookK (kI dd) ((upto dd.length).map .int) (.inl w) = some (.int ((dd.idxOf w : Nat) : Int)) := by
  have := lookI_off dd 0 h
  unfold upto
  rw [List.map_map]
  rw [show (D.int ∘ fun i : Nat => (i : Int)) = fun i : Nat => D.int ((0 + i : Nat) : Int) from funext fun i => by show D.int (i : Int) = _; rw [Nat.zero_add]]
  rw [this, Nat.zero_add]
theorem numC_snoc {l : List Int} {v : Int} (h : v ∉ l) : Cont.dic (putKs (kI l) (.inl v)) (putVs (kI l) ((upto l.length).map .int) (.inl v) (.int (l.length : Nat))) = numC (l ++ [v]) := by
  have hn : (Sum.inl v : Key) ∉ kI l := fun z => h (kI_mem.mp z)
  rw [putKs_new hn, putVs_new hn]
  unfold numC kI
  rw [List.map_append, List.length_append]
  show Cont.dic _ _ = Cont.dic _ ((upto (l.length + 1)).map .int)
  rw [upto_succ, List.map_append]
  rfl
section
variable {t : List (List Int)} {m i j to : Int} {gs q : List Int}
theorem gam_ali (L : LabT t m gs) (hi : 0 ≤ i ∧ i < t.length) (hj : 0 ≤ j ∧ j < t.length) : gam gs i = gam gs j ↔ Ali t m i j := by
  have e := L.eq i.toNat j.toNat (by omega) (by omega)
  rw [show ((i.toNat : Nat) : Int) = i by omega, show ((j.toNat : Nat) : Int) = j by omega] at e
  exact e
theorem gam_in (L : LabT t m gs) (h : Met t m q) (ht : 0 ≤ to ∧ to < t.length) : gam gs to ∈ q.map (gam gs) ↔ ∃ x, spotA t m q to = some x := by
  constructor
  · intro hm
    obtain ⟨x, hx, e⟩ := List.mem_map.mp hm
    have a := (gam_ali L (h.rg x hx) ht).mp e
    cases es : spotA t m q to with
    | none => exact absurd a (spot_none es x hx)
    | some y => exact ⟨y, rfl⟩
  · rintro ⟨x, es⟩
    obtain ⟨h1, h2⟩ := spot_some es
    exact List.mem_map.mpr ⟨_, getD_in h1, (gam_ali L (h.at h1) ht).mpr h2⟩
theorem gam_spot (L : LabT t m gs) (h : Met t m q) (ht : 0 ≤ to ∧ to < t.length) {x : Nat} (h1 : x < q.length) (h2 : Ali t m (q.getD x 0) to) : gam gs to ∈ q.map (gam gs) ∧ (q.map (gam gs)).idxOf (gam gs to) = x := by
  have hm : gam gs to ∈ q.map (gam gs) := List.mem_map.mpr ⟨_, getD_in h1, (gam_ali L (h.at h1) ht).mpr h2⟩
  refine ⟨hm, ?_⟩
  have hy := List.idxOf_lt_length_of_mem hm
  have e := List.getElem_idxOf hy
  rw [List.length_map] at hy
  rw [List.getElem_map] at e
  refine h.one hy h1 ?_
  have eg : q.getD ((q.map (gam gs)).idxOf (gam gs to)) 0 = q[(q.map (gam gs)).idxOf (gam gs to)] := by
    rw [List.getD_eq_getElem?_getD, List.getElem?_eq_getElem hy]
    rfl
  have a := (gam_ali L (h.at hy) ht).mp (by rw [eg]; exact e)
  exact a.trans h2.symm
/-- heads: for each label a row that bears it -/
structure Hds (t : List (List Int)) (gs : List Int) (hs : List (Int × Nat)) (i : Nat) : Prop where
  ok : ∀ p ∈ hs, p.2 < t.length ∧ gs.getD p.2 0 = p.1
  all : ∀ a, a < i → gs.getD a 0 ∈ hs.map (·.1)
  le : hs.length ≤ i
def hdsC (hs : List (Int × Nat)) : Cont := .dic (kI (hs.map (·.1))) (hs.map fun p => D.int (p.2 : Nat))
theorem hds_snoc {hs : List (Int × Nat)} {v : Int} {a : Nat} : Cont.dic (kI (hs.map (·.1)) ++ [.inl v]) ((hs.map fun p => D.int (p.2 : Nat)) ++ [D.int (a : Nat)]) = hdsC (hs ++ [(v, a)]) := by
  unfold hdsC kI
  rw [List.map_append, List.map_append, List.map_append]
  rfl
theorem hds_look {v : Int} : ∀ {hs : List (Int × Nat)}, v ∈ hs.map (·.1) → ∃ a, (v, a) ∈ hs ∧ lookK (kI (hs.map (·.1))) (hs.map fun p => D.int (p.2 : Nat)) (.inl v) = some (.int (a : Nat))
  | [], h => by cases h
  | p :: hs, h => by
    show ∃ a, (v, a) ∈ p :: hs ∧ (if (Sum.inl p.1 : Key) = .inl v then some (D.int (p.2 : Nat)) else lookK (kI (hs.map (·.1))) (hs.map fun p => D.int (p.2 : Nat)) (.inl v)) = some (.int (a : Nat))
    by_cases c : p.1 = v
    · exact ⟨p.2, by rw [← c]; exact List.mem_cons_self .., by rw [if_pos (by rw [c])]⟩
    · have hm : v ∈ hs.map (·.1) := (List.mem_cons.mp h).resolve_left fun e => c e.symm
      obtain ⟨a, h1, h2⟩ := hds_look hm
      exact ⟨a, List.mem_cons_of_mem _ h1, by rw [if_neg (fun e => c (Sum.inl.inj e))]; exact h2⟩
end
end PD
set_option Elab.async false
set_option linter.all false
set_option maxRecDepth 100000
set_option maxHeartbeats 2000000
/-! PD69: tables compared; a tiny one. -/
namespace PD
open PySem PySem.Spec L2
theorem sm_tab {t : List (List Int)} {m : Int} (g : GT t m) : (tabD t).sm = true := by
  show (decide ((t.map wordD).length ≤ 100000) && sms (t.map wordD)) = true
  have := g.n2
  rw [sms_words fun w hw => by have := g.rl w hw; have := g.hm; omega, decide_eq_true (by rw [List.length_map]; omega)]
  rfl
theorem dep_tab {t : List (List Int)} : (tabD t).dep ≤ 2 := by
  have := deps_words (l := t)
  show deps (t.map wordD) + 1 ≤ 2
  omega
theorem sm_tabs {t u : List (List Int)} {m : Int} (g : GT t m) (g' : GT u m) : (D.lst [tabD t, tabD u]).sm = true := by
  show (true && ((tabD t).sm && ((tabD u).sm && true))) = true
  rw [sm_tab g, sm_tab g']
  rfl
theorem dep_tabs {t u : List (List Int)} : (D.lst [tabD t, tabD u]).dep < 6 := by
  have h1 := dep_tab (t := t)
  have h2 := dep_tab (t := u)
  show max (tabD t).dep (max (tabD u).dep 0) + 1 < 6
  omega
def tiny : List (List Int) := [[1, 0], [0, 1]]
theorem tiny_gt : GT tiny 2 := ⟨by decide, by decide, by decide, by decide, by decide⟩
theorem tiny_run : ∀ {w : List Int} {i : Int}, (i = 0 ∨ i = 1) → Signs 2 w → ¬ runT tiny i w < 0
  | [], i, h, _ => by
    show ¬ i < 0
    omega
  | s :: w, i, h, hw => by
    have hs := hw s (List.mem_cons_self ..)
    refine tiny_run (w := w) (i := stp tiny i s) ?_ fun k hk => hw k (List.mem_cons_of_mem _ hk)
    obtain rfl | rfl : s = 0 ∨ s = 1 := by omega
    · rcases h with rfl | rfl
      · exact .inr (by decide)
      · exact .inl (by decide)
    · rcases h with rfl | rfl
      · exact .inl (by decide)
      · exact .inr (by decide)
theorem tiny_ali {i : Int} (h : i = 0 ∨ i = 1) : aliB tiny 2 0 i = true := aliB_iff.mpr fun w hw => ⟨fun z => absurd z (tiny_run (.inl rfl) hw), fun z => absurd z (tiny_run h hw)⟩
theorem tiny_vis {i : Int} (h : i = 0 ∨ i = 1) {row : List Int} : visA tiny 2 ([0], row) i = ([0], row ++ [0]) := by
  unfold visA
  rw [if_neg (by omega)]
  have e : spotA tiny 2 [0] i = some 0 := by
    unfold spotA
    rw [List.findIdx?_cons, tiny_ali h]
    rfl
  rw [e]
  rfl
theorem tiny_least : leastA tiny 2 = [[0, 0]] := by
  have e1 : stepA tiny 2 ([0], []) = ([0], [[0, 0]]) := by
    unfold stepA
    show ((([1, 0] : List Int).foldl (visA tiny 2) ([0], [])).1, ([] : List (List Int)) ++ [(([1, 0] : List Int).foldl (visA tiny 2) ([0], [])).2]) = _
    have : ([1, 0] : List Int).foldl (visA tiny 2) ([0], []) = ([0], [0, 0]) := by
      show visA tiny 2 (visA tiny 2 ([0], []) 1) 0 = _
      rw [tiny_vis (.inr rfl), tiny_vis (.inl rfl)]
      rfl
    rw [this]
    rfl
  show (lrun tiny 2 3 ([0], [])).2 = _
  have e2 : lrun tiny 2 3 ([0], []) = lrun tiny 2 2 (stepA tiny 2 ([0], [])) := if_pos (by decide)
  rw [e2, e1, lrun_stop (by decide)]
end PD
set_option Elab.async false
set_option linter.all false
set_option maxRecDepth 100000
set_option maxHeartbeats 4000000
set_option pp.maxSteps 3000
set_option pp.deepTerms false
set_option pp.deepTerms.threshold 18
namespace PD
open PySem PySem.Spec L2
def topS (i : Nat) : Stmt := PySem.Challenge.pw_elderow_k33_least_tables_of_words.main.body.getD i (.Pass ⟨0, 0, 0, 0⟩)
abbrev s__law_jar : Stmt := topS 17
abbrev N__law_jar : List Str := ["_law_script", "_law_seed", "_law_cell"]
theorem sc__law_jar : FnScope N__law_jar ["_law_script"] (defScope s__law_jar) := ⟨rfl, rfl, rfl, by decide +kernel, rfl, by decide +kernel, by decide +kernel⟩
abbrev s__law_same : Stmt := topS 19
abbrev N__law_same : List Str := ["_law_found", "_law_due", "_law_spot"]
theorem sc__law_same : FnScope N__law_same ["_law_found", "_law_due"] (defScope s__law_same) := ⟨rfl, rfl, rfl, by decide +kernel, rfl, by decide +kernel, by decide +kernel⟩
abbrev s__law_draw : Stmt := topS 18
abbrev N__law_draw : List Str := ["_law_jar_here", "_law_top", "_law_cell", "_law_digit"]
theorem sc__law_draw : FnScope N__law_draw ["_law_jar_here", "_law_top"] (defScope s__law_draw) := ⟨rfl, rfl, rfl, by decide +kernel, rfl, by decide +kernel, by decide +kernel⟩
abbrev s__law_words_table : Stmt := topS 21
abbrev N__law_words_table : List Str := ["_law_jar_here", "_law_base", "_law_size", "_law_found", "_law_row", "_law_sign"]
theorem sc__law_words_table : FnScope N__law_words_table ["_law_jar_here", "_law_base"] (defScope s__law_words_table) := ⟨rfl, rfl, rfl, by decide +kernel, rfl, by decide +kernel, by decide +kernel⟩
abbrev s__law_rows_alike : Stmt := topS 23
abbrev N__law_rows_alike : List Str := ["_law_table", "_law_one", "_law_two", "_law_base", "_law_met", "_law_step", "_law_here", "_law_there", "_law_sign", "_law_pair"]
theorem sc__law_rows_alike : FnScope N__law_rows_alike ["_law_table", "_law_one", "_law_two", "_law_base"] (defScope s__law_rows_alike) := ⟨rfl, rfl, rfl, by decide +kernel, rfl, by decide +kernel, by decide +kernel⟩
abbrev s__law_least_table : Stmt := topS 24
abbrev N__law_least_table : List Str := ["_law_table", "_law_base", "_law_order", "_law_found", "_law_step", "_law_row", "_law_to", "_law_alike", "_law_spot"]
theorem sc__law_least_table : FnScope N__law_least_table ["_law_table", "_law_base"] (defScope s__law_least_table) := ⟨rfl, rfl, rfl, by decide +kernel, rfl, by decide +kernel, by decide +kernel⟩
abbrev s_is_whole : Stmt := topS 6
abbrev N_is_whole : List Str := ["thing"]
theorem sc_is_whole : FnScope N_is_whole ["thing"] (defScope s_is_whole) := ⟨rfl, rfl, rfl, by decide +kernel, rfl, by decide +kernel, by decide +kernel⟩
abbrev s_is_within : Stmt := topS 7
abbrev N_is_within : List Str := ["thing", "low", "high"]
theorem sc_is_within : FnScope N_is_within ["thing", "low", "high"] (defScope s_is_within) := ⟨rfl, rfl, rfl, by decide +kernel, rfl, by decide +kernel, by decide +kernel⟩
abbrev s_rows_right : Stmt := topS 11
abbrev N_rows_right : List Str := ["thing", "many", "row", "to"]
theorem sc_rows_right : FnScope N_rows_right ["thing", "many"] (defScope s_rows_right) := ⟨rfl, rfl, rfl, by decide +kernel, rfl, by decide +kernel, by decide +kernel⟩
abbrev s_many_of : Stmt := topS 12
abbrev N_many_of : List Str := ["table", "many"]
theorem sc_many_of : FnScope N_many_of ["table"] (defScope s_many_of) := ⟨rfl, rfl, rfl, by decide +kernel, rfl, by decide +kernel, by decide +kernel⟩
abbrev s_grouped : Stmt := topS 13
abbrev N_grouped : List Str := ["table", "groups", "size", "keys", "numbers", "key", "at", "row", "to"]
theorem sc_grouped : FnScope N_grouped ["table"] (defScope s_grouped) := ⟨rfl, rfl, rfl, by decide +kernel, rfl, by decide +kernel, by decide +kernel⟩
abbrev s_least_rows : Stmt := topS 14
abbrev N_least_rows : List Str := ["table", "groups", "heads", "at", "group", "order", "numbers", "found", "row", "to"]
theorem sc_least_rows : FnScope N_least_rows ["table"] (defScope s_least_rows) := ⟨rfl, rfl, rfl, by decide +kernel, rfl, by decide +kernel, by decide +kernel⟩
abbrev s_least_table : Stmt := topS 15
abbrev N_least_table : List Str := ["table"]
theorem sc_least_table : FnScope N_least_table ["table"] (defScope s_least_table) := ⟨rfl, rfl, rfl, by decide +kernel, rfl, by decide +kernel, by decide +kernel⟩
abbrev s__law_words : Stmt := topS 20
abbrev N__law_words : List Str := ["_law_base", "_law_length", "_law_found", "_law_turn", "_law_longer", "_law_word", "_law_sign"]
theorem sc__law_words : FnScope N__law_words ["_law_base", "_law_length"] (defScope s__law_words) := ⟨rfl, rfl, rfl, by decide +kernel, rfl, by decide +kernel, by decide +kernel⟩
abbrev s__law_led : Stmt := topS 22
abbrev N__law_led : List Str := ["_law_table", "_law_here", "_law_word", "_law_sign"]
theorem sc__law_led : FnScope N__law_led ["_law_table", "_law_here", "_law_word"] (defScope s__law_led) := ⟨rfl, rfl, rfl, by decide +kernel, rfl, by decide +kernel, by decide +kernel⟩
abbrev s_law : Stmt := topS 25
abbrev N_law : List Str := ["_law_script", "_law_jar_here", "_law_turn", "_law_base", "_law_table", "_law_due", "_law_found", "_law_word"]
theorem sc_law : FnScope N_law ["_law_script"] (defScope s_law) := ⟨rfl, rfl, rfl, by decide +kernel, rfl, by decide +kernel, by decide +kernel⟩
abbrev s_RowError : Stmt := inClass (topS 1) 0
theorem sc_RowError : FnScope ["self", "called"] ["self", "called"] (defScope s_RowError) := ⟨rfl, rfl, rfl, by decide +kernel, rfl, by decide +kernel, by decide +kernel⟩
abbrev s_BadTable : Stmt := inClass (topS 2) 0
theorem sc_BadTable : FnScope ["self"] ["self"] (defScope s_BadTable) := ⟨rfl, rfl, rfl, by decide +kernel, rfl, by decide +kernel, by decide +kernel⟩
structure Ad where
  f__law_jar : Addr
  d__law_jar : FuncData
  f__law_same : Addr
  d__law_same : FuncData
  f__law_draw : Addr
  d__law_draw : FuncData
  f__law_words_table : Addr
  d__law_words_table : FuncData
  f__law_rows_alike : Addr
  d__law_rows_alike : FuncData
  f__law_least_table : Addr
  d__law_least_table : FuncData
  f_is_whole : Addr
  d_is_whole : FuncData
  f_is_within : Addr
  d_is_within : FuncData
  f_rows_right : Addr
  d_rows_right : FuncData
  f_many_of : Addr
  d_many_of : FuncData
  f_grouped : Addr
  d_grouped : FuncData
  f_least_rows : Addr
  d_least_rows : FuncData
  f_least_table : Addr
  d_least_table : FuncData
  f__law_words : Addr
  d__law_words : FuncData
  f__law_led : Addr
  d__law_led : FuncData
  f_law : Addr
  d_law : FuncData
  C_RowError : Addr
  i_RowError : Addr
  di_RowError : FuncData
  C_BadTable : Addr
  i_BadTable : Addr
  di_BadTable : FuncData
  t_MANY : Tok
  t_MOST_MANY : Tok
  t_MOST_ROWS : Tok
  t_NONE : Tok
structure TX (c : Cfg) (A : Ad) : Prop where
  m__law_jar : c.mg "_law_jar" = some (.ref A.f__law_jar)
  k__law_jar : PySem.W.keepIn c.K (.ref A.f__law_jar) = true
  F__law_jar : Fun c.K "_law_jar" "_law_jar" s__law_jar A.f__law_jar A.d__law_jar
  m__law_same : c.mg "_law_same" = some (.ref A.f__law_same)
  k__law_same : PySem.W.keepIn c.K (.ref A.f__law_same) = true
  F__law_same : Fun c.K "_law_same" "_law_same" s__law_same A.f__law_same A.d__law_same
  m__law_draw : c.mg "_law_draw" = some (.ref A.f__law_draw)
  k__law_draw : PySem.W.keepIn c.K (.ref A.f__law_draw) = true
  F__law_draw : Fun c.K "_law_draw" "_law_draw" s__law_draw A.f__law_draw A.d__law_draw
  m__law_words_table : c.mg "_law_words_table" = some (.ref A.f__law_words_table)
  k__law_words_table : PySem.W.keepIn c.K (.ref A.f__law_words_table) = true
  F__law_words_table : Fun c.K "_law_words_table" "_law_words_table" s__law_words_table A.f__law_words_table A.d__law_words_table
  m__law_rows_alike : c.mg "_law_rows_alike" = some (.ref A.f__law_rows_alike)
  k__law_rows_alike : PySem.W.keepIn c.K (.ref A.f__law_rows_alike) = true
  F__law_rows_alike : Fun c.K "_law_rows_alike" "_law_rows_alike" s__law_rows_alike A.f__law_rows_alike A.d__law_rows_alike
  m__law_least_table : c.mg "_law_least_table" = some (.ref A.f__law_least_table)
  k__law_least_table : PySem.W.keepIn c.K (.ref A.f__law_least_table) = true
  F__law_least_table : Fun c.K "_law_least_table" "_law_least_table" s__law_least_table A.f__law_least_table A.d__law_least_table
  m_is_whole : c.mg "is_whole" = some (.ref A.f_is_whole)
  k_is_whole : PySem.W.keepIn c.K (.ref A.f_is_whole) = true
  F_is_whole : Fun c.K "is_whole" "is_whole" s_is_whole A.f_is_whole A.d_is_whole
  m_is_within : c.mg "is_within" = some (.ref A.f_is_within)
  k_is_within : PySem.W.keepIn c.K (.ref A.f_is_within) = true
  F_is_within : Fun c.K "is_within" "is_within" s_is_within A.f_is_within A.d_is_within
  m_rows_right : c.mg "rows_right" = some (.ref A.f_rows_right)
  k_rows_right : PySem.W.keepIn c.K (.ref A.f_rows_right) = true
  F_rows_right : Fun c.K "rows_right" "rows_right" s_rows_right A.f_rows_right A.d_rows_right
  m_many_of : c.mg "many_of" = some (.ref A.f_many_of)
  k_many_of : PySem.W.keepIn c.K (.ref A.f_many_of) = true
  F_many_of : Fun c.K "many_of" "many_of" s_many_of A.f_many_of A.d_many_of
  m_grouped : c.mg "grouped" = some (.ref A.f_grouped)
  k_grouped : PySem.W.keepIn c.K (.ref A.f_grouped) = true
  F_grouped : Fun c.K "grouped" "grouped" s_grouped A.f_grouped A.d_grouped
  m_least_rows : c.mg "least_rows" = some (.ref A.f_least_rows)
  k_least_rows : PySem.W.keepIn c.K (.ref A.f_least_rows) = true
  F_least_rows : Fun c.K "least_rows" "least_rows" s_least_rows A.f_least_rows A.d_least_rows
  m_least_table : c.mg "least_table" = some (.ref A.f_least_table)
  k_least_table : PySem.W.keepIn c.K (.ref A.f_least_table) = true
  F_least_table : Fun c.K "least_table" "least_table" s_least_table A.f_least_table A.d_least_table
  m__law_words : c.mg "_law_words" = some (.ref A.f__law_words)
  k__law_words : PySem.W.keepIn c.K (.ref A.f__law_words) = true
  F__law_words : Fun c.K "_law_words" "_law_words" s__law_words A.f__law_words A.d__law_words
  m__law_led : c.mg "_law_led" = some (.ref A.f__law_led)
  k__law_led : PySem.W.keepIn c.K (.ref A.f__law_led) = true
  F__law_led : Fun c.K "_law_led" "_law_led" s__law_led A.f__law_led A.d__law_led
  m_law : c.mg "law" = some (.ref A.f_law)
  k_law : PySem.W.keepIn c.K (.ref A.f_law) = true
  F_law : Fun c.K "law" "law" s_law A.f_law A.d_law
  b_all : c.mg "all" = none
  b_bool : c.mg "bool" = none
  b_enumerate : c.mg "enumerate" = none
  b_int : c.mg "int" = none
  b_isinstance : c.mg "isinstance" = none
  b_len : c.mg "len" = none
  b_list : c.mg "list" = none
  b_range : c.mg "range" = none
  b_set : c.mg "set" = none
  b_str : c.mg "str" = none
  b_tuple : c.mg "tuple" = none
  m_MANY : c.mg "MANY" = some (.int (2) A.t_MANY)
  m_MOST_MANY : c.mg "MOST_MANY" = some (.int (4) A.t_MOST_MANY)
  m_MOST_ROWS : c.mg "MOST_ROWS" = some (.int (1000) A.t_MOST_ROWS)
  m_NONE : c.mg "NONE" = some (.int (-1) A.t_NONE)
  m_RowError : c.mg "RowError" = some (.ref A.C_RowError)
  F_RowError : Fun c.K "__init__" "RowError.__init__" s_RowError A.i_RowError A.di_RowError
  r_RowError : ClX.CRead c.K A.C_RowError (.type "type")
  e_RowError : PySem.W.findCls c.K (.ref A.C_RowError) (.type "type") "__init__" = some (.val (.ref A.i_RowError))
  ki_RowError : PySem.W.keepIn c.K (.ref A.i_RowError) = true
  v_VE : PySem.W.findCls c.K (.type "ValueError") (.type "type") "__init__" = some (.val (.builtin "ValueError.__init__"))
  b_ValueError : c.mg "ValueError" = none
  m_BadTable : c.mg "BadTable" = some (.ref A.C_BadTable)
  o_BadTable : OexC c.K A.C_BadTable
  i_BadTable : PySem.W.findIn c.K (.ref A.C_BadTable) "__init__" = some (some (.ref A.i_BadTable))
  t_BadTable : PySem.W.typeIn c.K (.ref A.i_BadTable) = some (.type "function")
  n_BadTable : PySem.W.findIn c.K (.ref A.C_BadTable) "called" = some none
  F_BadTable : Fun c.K "__init__" "BadTable.__init__" s_BadTable A.i_BadTable A.di_BadTable
section
variable {c : Cfg} {A : Ad} {base : Heap}
theorem b__law_jar (T : TX c A) : Binds c.K A.d__law_jar ["_law_script"] [] := T.F__law_jar.binds (ps := ["_law_script"]) fun _ _ _ _ _ _ us hl => match us, hl with | [_], _ => rfl
theorem b__law_same (T : TX c A) : Binds c.K A.d__law_same ["_law_found", "_law_due"] [] := T.F__law_same.binds (ps := ["_law_found", "_law_due"]) fun _ _ _ _ _ _ us hl => match us, hl with | [_, _], _ => rfl
theorem b__law_draw (T : TX c A) : Binds c.K A.d__law_draw ["_law_jar_here", "_law_top"] [] := T.F__law_draw.binds (ps := ["_law_jar_here", "_law_top"]) fun _ _ _ _ _ _ us hl => match us, hl with | [_, _], _ => rfl
theorem b__law_words_table (T : TX c A) : Binds c.K A.d__law_words_table ["_law_jar_here", "_law_base"] [] := T.F__law_words_table.binds (ps := ["_law_jar_here", "_law_base"]) fun _ _ _ _ _ _ us hl => match us, hl with | [_, _], _ => rfl
theorem b__law_rows_alike (T : TX c A) : Binds c.K A.d__law_rows_alike ["_law_table", "_law_one", "_law_two", "_law_base"] [] := T.F__law_rows_alike.binds (ps := ["_law_table", "_law_one", "_law_two", "_law_base"]) fun _ _ _ _ _ _ us hl => match us, hl with | [_, _, _, _], _ => rfl
theorem b__law_least_table (T : TX c A) : Binds c.K A.d__law_least_table ["_law_table", "_law_base"] [] := T.F__law_least_table.binds (ps := ["_law_table", "_law_base"]) fun _ _ _ _ _ _ us hl => match us, hl with | [_, _], _ => rfl
theorem b_is_whole (T : TX c A) : Binds c.K A.d_is_whole ["thing"] [] := T.F_is_whole.binds (ps := ["thing"]) fun _ _ _ _ _ _ us hl => match us, hl with | [_], _ => rfl
theorem b_is_within (T : TX c A) : Binds c.K A.d_is_within ["thing", "low", "high"] [] := T.F_is_within.binds (ps := ["thing", "low", "high"]) fun _ _ _ _ _ _ us hl => match us, hl with | [_, _, _], _ => rfl
theorem b_rows_right (T : TX c A) : Binds c.K A.d_rows_right ["thing", "many"] [] := T.F_rows_right.binds (ps := ["thing", "many"]) fun _ _ _ _ _ _ us hl => match us, hl with | [_, _], _ => rfl
theorem b_many_of (T : TX c A) : Binds c.K A.d_many_of ["table"] [] := T.F_many_of.binds (ps := ["table"]) fun _ _ _ _ _ _ us hl => match us, hl with | [_], _ => rfl
theorem b_grouped (T : TX c A) : Binds c.K A.d_grouped ["table"] [] := T.F_grouped.binds (ps := ["table"]) fun _ _ _ _ _ _ us hl => match us, hl with | [_], _ => rfl
theorem b_least_rows (T : TX c A) : Binds c.K A.d_least_rows ["table"] [] := T.F_least_rows.binds (ps := ["table"]) fun _ _ _ _ _ _ us hl => match us, hl with | [_], _ => rfl
theorem b_least_table (T : TX c A) : Binds c.K A.d_least_table ["table"] [] := T.F_least_table.binds (ps := ["table"]) fun _ _ _ _ _ _ us hl => match us, hl with | [_], _ => rfl
theorem b__law_words (T : TX c A) : Binds c.K A.d__law_words ["_law_base", "_law_length"] [] := T.F__law_words.binds (ps := ["_law_base", "_law_length"]) fun _ _ _ _ _ _ us hl => match us, hl with | [_, _], _ => rfl
theorem b__law_led (T : TX c A) : Binds c.K A.d__law_led ["_law_table", "_law_here", "_law_word"] [] := T.F__law_led.binds (ps := ["_law_table", "_law_here", "_law_word"]) fun _ _ _ _ _ _ us hl => match us, hl with | [_, _, _], _ => rfl
theorem b_law (T : TX c A) : Binds c.K A.d_law ["_law_script"] [] := T.F_law.binds (ps := ["_law_script"]) fun _ _ _ _ _ _ us hl => match us, hl with | [_], _ => rfl
theorem cd_MANY (F : Hp) : Rep c F (.int (2)) (.int (2)) := .int _
theorem cd_MOST_MANY (F : Hp) : Rep c F (.int (4)) (.int (4)) := .int _
theorem cd_MOST_ROWS (F : Hp) : Rep c F (.int (1000)) (.int (1000)) := .int _
theorem cd_NONE (F : Hp) : Rep c F (.int (-1)) (.int (-1)) := .int _
theorem bx_RowError (T : TX c A) : Binds c.K A.di_RowError ["self", "called"] [] := T.F_RowError.binds (ps := ["self", "called"]) fun _ _ _ _ _ _ us hl => match us, hl with | [_, _], _ => rfl
theorem okx_RowError (T : TX c A) : FnOk c.P c.w c.K c.mg base (L2.CX c.P c.w) 1 A.i_RowError A.di_RowError ["self", "called"] (spRE c.K) :=
  fn_re T.F_RowError sc_RowError T.b_ValueError T.v_VE fun cdv A outer s H E => pss_re rfl rfl rfl rfl T.b_ValueError T.v_VE rfl rfl rfl
theorem bx_BadTable (T : TX c A) : Binds c.K A.di_BadTable ["self"] [] := T.F_BadTable.binds (ps := ["self"]) fun _ _ _ _ _ _ us hl => match us, hl with | [_], _ => rfl
theorem okx_BadTable (T : TX c A) : FnOk c.P c.w c.K c.mg base (L2.CX c.P c.w) 2 A.i_BadTable A.di_BadTable ["self"] (spBX c.K "BadTable") :=
  fn_bx (nm := "BadTable") (st := s_BadTable) rfl T.F_BadTable sc_BadTable rfl rfl T.m_RowError T.r_RowError T.e_RowError T.ki_RowError (okx_RowError T) (bx_RowError T) (fun _ _ => rfl) (fun _ _ => rfl)
end
end PD
set_option Elab.async false
set_option linter.all false
set_option maxRecDepth 100000
set_option maxHeartbeats 4000000
set_option pp.maxSteps 3000
set_option pp.deepTerms false
set_option pp.deepTerms.threshold 18
namespace PD
open PySem PySem.Spec L2
section
variable {c : Cfg} {A : Ad} {base : Heap}
theorem ok__law_jar (T : TX c A) : FnOk c.P c.w c.K c.mg base (L2.CX c.P c.w) 1 A.f__law_jar A.d__law_jar ["_law_script"] (spOf c (hd sp__law_jar)) := by
  refine def_ok T.F__law_jar sc__law_jar (by intro ds μ Q E h; replace h := hd_of h; first | exact h.1 | (obtain ⟨rfl, _⟩ := h; rfl) | (obtain ⟨_, rfl, _⟩ := h; rfl) | (obtain ⟨_, _, rfl, _⟩ := h; rfl) | (obtain ⟨_, _, _, rfl, _⟩ := h; rfl) | (obtain ⟨_, _, _, _, rfl, _⟩ := h; rfl) | (obtain ⟨_, _, _, _, _, rfl, _⟩ := h; rfl) | (obtain ⟨_, _, _, _, _, _, rfl, _⟩ := h; rfl) | (obtain ⟨_, _, _, _, _, _, _, rfl, _⟩ := h; rfl) | (obtain ⟨_, _, _, _, _, _, _, _, rfl, _⟩ := h; rfl) | (obtain ⟨_, _, _, _, _, _, _, _, _, rfl, _⟩ := h; rfl) | (obtain ⟨_, _, _, _, _, _, _, _, _, _, rfl, _⟩ := h; rfl) | (obtain ⟨_, _, _, _, _, _, _, _, _, _, _, rfl, _⟩ := h; rfl) | (obtain ⟨_, _, _, _, _, _, _, _, _, _, _, _, rfl, _⟩ := h; rfl)) ⟨_, fun cdv A' outer s H E B F0 hr =>
      (pxs_cons (px_set (i := 1) sc__law_jar.nd rfl (by first | exact .inl rfl | exact .inr rfl) (px_add rfl px_int (px_len rfl T.b_len (px_v 0))))
      (pxs_cons (px_for (passes_of rfl) rfl (px_it rfl (px_slice rfl (px_v 0) px_no (px_part px_int))) (px_gnm (i := 2) sc__law_jar.nd rfl (by first | exact .inl rfl | exact .inr rfl)) (pxs_one (px_set (i := 1) sc__law_jar.nd rfl (by first | exact .inl rfl | exact .inr rfl) (px_mod rfl (px_add rfl (px_add rfl (px_mul rfl (px_v 1) px_int) (px_v 2)) px_int) px_int))))
      (pxs_one (px_ret (px_lst (px_cons (px_list rfl T.b_list (px_slice rfl (px_v 0) px_no (px_part px_int))) (px_cons px_int (px_cons px_int (px_cons (px_v 1) (px_cons px_int px_nil)))))))))), ?_⟩
  intro ds μ Q E hh
  obtain ⟨ns, rfl, hn, h⟩ := hd_of hh
  obtain ⟨ks, ek, hk⟩ := cutD_ints ns none (some 63)
  have fin : ∀ (sd : Int) (x : Option SV), 0 ≤ sd ∧ sd < 2147483629 → wRet (wLst (wCons (wUn dList (wSl (wVar 0) wNo (wPart (wC (.int 63))))) (wCons (wC (.int 0)) (wCons (wC (.int 0)) (wCons (wVar 1) (wCons (wC (.int 0)) wNil)))))) (endsOf Q E) [some (.val (.scr ns)), some (.val (.int sd)), x] μ := by
    intro sd x hs
    show 5 ≤ sizeLine ∧ Q (.fresh (.lst [.lst (cutD (ns.map .int) none (some 63)), .int 0, .int 0, .int sd, .int 0])) μ
    rw [ek]
    exact ⟨by decide, h ks sd ⟨by omega, by omega, by omega, hs.1, hs.2, by omega⟩⟩
  have key : ∀ (l : List Int) (sd : Int) (x : Option SV), 0 ≤ sd ∧ sd < 2147483629 →
      wForL (gNm 2) (wAsg 1 (wBin dMod (wBin dAdd (wBin dAdd (wBin dMul (wVar 1) (wC (.int 69069))) (wVar 2)) (wC (.int 5))) (wC (.int 2147483629)))) { endsOf Q E with nx := wRet (wLst (wCons (wUn dList (wSl (wVar 0) wNo (wPart (wC (.int 63))))) (wCons (wC (.int 0)) (wCons (wC (.int 0)) (wCons (wVar 1) (wCons (wC (.int 0)) wNil)))))) (endsOf Q E) } (l.map .int) [some (.val (.scr ns)), some (.val (.int sd)), x] μ := by
    intro l
    induction l with
    | nil => intro sd x hs; exact fin sd x hs
    | cons a l ih =>
      intro sd x hs
      exact (show (CMul sd 69069 ∨ CMulW sd 69069) ∧ (0 : Int) < 2147483629 ∧ _ from ⟨.inl (.inr ⟨by decide, by decide⟩), by decide, ih _ _ ⟨Int.emod_nonneg _ (by decide), Int.emod_lt_of_pos _ (by decide)⟩⟩)
  have h2 := key ks (7919 + ns.length) none ⟨by omega, by omega⟩
  rw [← ek] at h2
  exact h2
theorem ok_same_n (T : TX c A) : ∀ n : Nat, FnOk c.P c.w c.K c.mg base (L2.CX c.P c.w) (n + 1) A.f__law_same A.d__law_same ["_law_found", "_law_due"] (spOf c (hd (sp_same n)))
  | 0 => ⟨sp_len (by intro ds μ Q E hh; obtain ⟨_, _, rfl, _⟩ := hd_of hh; rfl), fun _ _ _ _ _ _ _ _ _ _ _ _ _ h => by
      obtain ⟨ds, μ, F0, B, Qp, Ep, r, _, _, hh, _⟩ := h
      obtain ⟨x, y, _, _, _, hy, _⟩ := hd_of hh
      omega⟩
  | n + 1 => by
    have ok__law_same : ∀ (_ : TX c A), FnOk c.P c.w c.K c.mg base (L2.CX c.P c.w) (n + 1) A.f__law_same A.d__law_same ["_law_found", "_law_due"] (spOf c (hd (sp_same n))) := fun _ => ok_same_n T n
    refine def_ok (k := n + 1) T.F__law_same sc__law_same (by intro ds μ Q E hh; obtain ⟨_, _, rfl, _⟩ := hd_of hh; rfl) ⟨_, fun cdv A' outer s H E B F0 hr =>
      (pxs_cons (px_ifS (pxt_isN rfl (px_v 1) px_non) (pxs_one (px_ret (px_isN rfl (px_v 0) px_non))) pxs_nil)
      (pxs_cons (px_ifS (pxt_w (pxw_or (pxt_val (px_isiD rfl T.b_isinstance T.b_bool boot_ty_bool kit_bool (px_v 1))) (pxw_or1 (pxt_val (px_isiD rfl T.b_isinstance T.b_bool boot_ty_bool kit_bool (px_v 0)))))) (pxs_one (px_ret (px_and (px_isiD rfl T.b_isinstance T.b_bool boot_ty_bool kit_bool (px_v 1)) (px_and (px_isiD rfl T.b_isinstance T.b_bool boot_ty_bool kit_bool (px_v 0)) (px_one (px_eq hr.units rfl (px_v 0) (px_v 1))))))) pxs_nil)
      (pxs_cons (px_ifS (pxt_val (px_isi2D rfl T.b_isinstance T.b_int T.b_str boot_ty_int boot_ty_str kit_int kit_str (px_v 1))) (pxs_one (px_ret (px_and (px_isi2D rfl T.b_isinstance T.b_int T.b_str boot_ty_int boot_ty_str kit_int kit_str (px_v 0)) (px_and (px_eq hr.units rfl (px_isiD rfl T.b_isinstance T.b_int boot_ty_int kit_int (px_v 0)) (px_isiD rfl T.b_isinstance T.b_int boot_ty_int kit_int (px_v 1))) (px_one (px_eq hr.units rfl (px_v 0) (px_v 1))))))) pxs_nil)
      (pxs_cons (px_ifS (pxt_w (pxw_or (pxt_ne hr.units rfl (px_isiD rfl T.b_isinstance T.b_list boot_ty_list kit_list (px_v 1)) (px_isiD rfl T.b_isinstance T.b_list boot_ty_list kit_list (px_v 0))) (pxw_or1 (pxt_ne hr.units rfl (px_isiD rfl T.b_isinstance T.b_tuple boot_ty_tuple kit_tuple (px_v 1)) (px_isiD rfl T.b_isinstance T.b_tuple boot_ty_tuple kit_tuple (px_v 0)))))) (pxs_one (px_ret px_bl)) pxs_nil)
      (pxs_cons (px_ifS (pxt_w (pxw_or (pxt_not (pxt_val (px_isi2D rfl T.b_isinstance T.b_list T.b_tuple boot_ty_list boot_ty_tuple kit_list kit_tuple (px_v 0)))) (pxw_or1 (pxt_ne hr.units rfl (px_len rfl T.b_len (px_v 0)) (px_len rfl T.b_len (px_v 1)))))) (pxs_one (px_ret px_bl)) pxs_nil)
      (pxs_one (px_ret (px_all rfl rfl T.b_all (px_lc (own := [("_law_spot", 2)]) rfl sc__law_same.nd (px_rng1 T.b_range (px_len rfl T.b_len (px_v 1))) (blkOk_by (N := N__law_same) (sc := defScope s__law_same) (by decide +kernel)) (by decide) (fun _ _ _ _ _ _ => (px_gnm (i := 2) sc__law_same.nd rfl (by first | exact .inl rfl | exact .inr rfl))) (fun _ _ _ _ _ => px_tsNil) (fun _ _ _ _ _ _ => (px_call (ok__law_same T) (hr.mono (by first | decide | omega)) rfl T.m__law_same T.k__law_same (b__law_same T) .nil (fun _ => .nil) L2.takes0 (px_cons (px_at rfl (px_v 0) (px_v 2)) (px_cons (px_at rfl (px_v 1) (px_v 2)) px_nil))))))))))))), ?_⟩
    intro ds μ Q E hh
    obtain ⟨x, y, rfl, hx, hy, hdep, h⟩ := hd_of hh
    have step : ∀ (l m : List D) (v w : D) (hl : l.length ≤ 100000) (hm : m.length ≤ 100000) (sl : sms l = true) (sm : sms m = true) (hdep : deps m < n) (he : l.length = m.length) (ex : ∀ i d, atI l i = some d → ∀ P, dIx v (.int i) P ↔ P (.fz d)) (ey : ∀ i d, atI m i = some d → ∀ P, dIx w (.int i) P ↔ P (.fz d)) (hb : ∀ b : Bool, (b = true ↔ l = m) → Q (.fz (.bl b)) μ),
        wLcL (gNm 2) wYes (wCall (hd (sp_same n)) [] (wCons (wBin dIx (wVar 0) (wVar 2)) (wCons (wBin dIx (wVar 1) (wVar 2)) wNil))) [2] (fun acc μ2 => dBls (fun bs => bs.all id) (.lst acc) fun r => (endsOf Q E).rt r μ2) [some (.val v), some (.val w), none] ((List.range m.length).map fun i => .int ((i : Nat) : Int)) [] μ := by
      intro l m v w hl hm sl sm hdep he ex ey hb
      refine lcl_map (fun d => .bl (sameAt l m d)) _ [] (fun d hd' P hP => ?_) ?_ ?_
      · obtain ⟨i, hi, rfl⟩ := List.mem_map.mp hd'
        have hi := List.mem_range.mp hi
        have e1 : l[i]? = some (l[i]'(by omega)) := List.getElem?_eq_getElem (by omega)
        have e2 : m[i]? = some (m[i]'hi) := List.getElem?_eq_getElem hi
        refine (ex _ _ (atI_at e1 hl) (fun r => r.still fun d1 => dIx w (.int ((i : Nat) : Int)) fun r2 => r2.still fun d2 => hd (sp_same n) [d1, d2] μ (fun r μ2 => r.still fun y => P y μ2) noX)).mpr ?_
        refine (ey _ _ (atI_at e2 hm) (fun r2 => r2.still fun d2 => hd (sp_same n) [l[i], d2] μ (fun r μ2 => r.still fun y => P y μ2) noX)).mpr ?_
        refine go ⟨l[i], m[i], rfl, sms_mem sl (List.getElem_mem _), sms_mem sm (List.getElem_mem _), Nat.lt_of_le_of_lt (deps_mem (List.getElem_mem hi)) hdep, fun b hb' => ?_⟩
        have eb : b = sameAt l m (.int ((i : Nat) : Int)) := by
          rw [Bool.eq_iff_iff, hb']
          show _ ↔ @decide (l[((i : Nat) : Int).toNat]? = m[((i : Nat) : Int).toNat]?) (Classical.propDecidable _) = true
          rw [@decide_eq_true_iff _ (Classical.propDecidable _), Int.toNat_natCast, e1, e2]
          exact ⟨fun h => by rw [h], fun h => Option.some.inj h⟩
        rw [eb]
        exact hP
      · rw [List.length_map, List.length_range]
        have : (100000 : Nat) < sizeLine := by decide
        show 0 + m.length ≤ sizeLine
        omega
      · have e := blsOf_map (sameAt l m) ((List.range m.length).map fun i => .int ((i : Nat) : Int))
        show match blsOf ([] ++ ((List.range m.length).map fun i => D.int ((i : Nat) : Int)).map fun d => D.bl (sameAt l m d)) with
          | some bs => Q (.fz (.bl (bs.all id))) μ
          | none => False
        rw [List.nil_append, e]
        exact hb _ (sameAt_all he)
    have tail : ∀ (l m : List D) (v w : D) (G : Prop), l.length ≤ 100000 → m.length ≤ 100000 → (l.length = m.length → G) → ((l = m) ↔ v = w) → (∀ b : Bool, (b = true ↔ v = w) → Q (.fz (.bl b)) μ) →
        (if (!decide ((l.length : Int) = (m.length : Int))) = true then Q (.fz (.bl false)) μ else (-(2 ^ 62) ≤ (m.length : Int) ∧ (m.length : Int) < 2 ^ 62 ∧ true = true ∧ G)) := by
      intro l m v w G hl hm hG hi hq
      by_cases he : l.length = m.length
      · rw [if_neg (by simp [he])]
        exact ⟨by omega, by omega, rfl, hG he⟩
      · rw [if_pos (by simp; omega)]
        exact hq false ⟨(fun z => by cases z), fun z => absurd (congrArg List.length (hi.mpr z)) he⟩
    have no : ∀ {v w : D}, v ≠ w → (false = true ↔ v = w) := fun hn => ⟨(fun z => by cases z), fun z => absurd z hn⟩
    cases y with
    | non =>
      refine ⟨rfl, rfl, h x.isNon ?_⟩
      cases x <;> first | (cases hx; done) | (constructor <;> intro z <;> first | rfl | cases z)
    | bl b =>
      cases x <;> first | (cases hx; done) | skip
      case bl a => exact ⟨rfl, h (decide (a = b)) ⟨fun z => by rw [of_decide_eq_true z], fun z => decide_eq_true (D.bl.inj z)⟩⟩
      all_goals exact ⟨rfl, h false (no (by intro z; cases z))⟩
    | int j =>
      cases x <;> first | (cases hx; done) | skip
      case int i => exact ⟨rfl, h (decide (i = j)) ⟨fun z => by rw [of_decide_eq_true z], fun z => decide_eq_true (D.int.inj z)⟩⟩
      all_goals exact ⟨rfl, h false (no (by intro z; cases z))⟩
    | str j =>
      cases x <;> first | (cases hx; done) | skip
      case str i => exact ⟨rfl, h (decide (i = j)) ⟨fun z => by rw [of_decide_eq_true z], fun z => decide_eq_true (D.str.inj z)⟩⟩
      all_goals exact ⟨rfl, h false (no (by intro z; cases z))⟩
    | tup m =>
      have hy : (decide (m.length ≤ 100000) && sms m) = true := hy
      rw [Bool.and_eq_true, decide_eq_true_eq] at hy
      have hdep : deps m + 1 < n + 1 := hdep
      cases x <;> first | (cases hx; done) | skip
      case tup l =>
        have hx : (decide (l.length ≤ 100000) && sms l) = true := hx
        rw [Bool.and_eq_true, decide_eq_true_eq] at hx
        refine ⟨rfl, tail l m (.tup l) (.tup m) _ hx.1 hy.1 (fun he => step l m (.tup l) (.tup m) hx.1 hy.1 hx.2 hy.2 (by omega) he (fun i d ed P => ?_) (fun i d ed P => ?_) fun b hb => h b (hb.trans ⟨fun z => by rw [z], fun z => D.tup.inj z⟩)) ⟨fun z => by rw [z], fun z => D.tup.inj z⟩ h⟩
        · show (match atI l i with
            | some d => P (.fz d)
            | none => False) ↔ _
          rw [ed]
        · show (match atI m i with
            | some d => P (.fz d)
            | none => False) ↔ _
          rw [ed]
      all_goals exact ⟨rfl, h false (no (by intro z; cases z))⟩
    | lst m =>
      have hy : (decide (m.length ≤ 100000) && sms m) = true := hy
      rw [Bool.and_eq_true, decide_eq_true_eq] at hy
      have hdep : deps m + 1 < n + 1 := hdep
      cases x <;> first | (cases hx; done) | skip
      case lst l =>
        have hx : (decide (l.length ≤ 100000) && sms l) = true := hx
        rw [Bool.and_eq_true, decide_eq_true_eq] at hx
        refine ⟨rfl, tail l m (.lst l) (.lst m) _ hx.1 hy.1 (fun he => step l m (.lst l) (.lst m) hx.1 hy.1 hx.2 hy.2 (by omega) he (fun i d ed P => ?_) (fun i d ed P => ?_) fun b hb => h b (hb.trans ⟨fun z => by rw [z], fun z => D.lst.inj z⟩)) ⟨fun z => by rw [z], fun z => D.lst.inj z⟩ h⟩
        · show (match atI l i with
            | some d => P (.fz d)
            | none => False) ↔ _
          rw [ed]
        · show (match atI m i with
            | some d => P (.fz d)
            | none => False) ↔ _
          rw [ed]
      all_goals exact ⟨rfl, h false (no (by intro z; cases z))⟩
    | _ => cases hy
theorem ok__law_same (T : TX c A) : FnOk c.P c.w c.K c.mg base (L2.CX c.P c.w) 7 A.f__law_same A.d__law_same ["_law_found", "_law_due"] (spOf c (hd (sp_same 6))) := ok_same_n T 6
theorem ok__law_draw (T : TX c A) : FnOk c.P c.w c.K c.mg base (L2.CX c.P c.w) 1 A.f__law_draw A.d__law_draw ["_law_jar_here", "_law_top"] (spOf c (hd sp__law_draw)) := by
  refine def_ok T.F__law_draw sc__law_draw (by intro ds μ Q E h; replace h := hd_of h; first | exact h.1 | (obtain ⟨rfl, _⟩ := h; rfl) | (obtain ⟨_, rfl, _⟩ := h; rfl) | (obtain ⟨_, _, rfl, _⟩ := h; rfl) | (obtain ⟨_, _, _, rfl, _⟩ := h; rfl) | (obtain ⟨_, _, _, _, rfl, _⟩ := h; rfl) | (obtain ⟨_, _, _, _, _, rfl, _⟩ := h; rfl) | (obtain ⟨_, _, _, _, _, _, rfl, _⟩ := h; rfl) | (obtain ⟨_, _, _, _, _, _, _, rfl, _⟩ := h; rfl) | (obtain ⟨_, _, _, _, _, _, _, _, rfl, _⟩ := h; rfl) | (obtain ⟨_, _, _, _, _, _, _, _, _, rfl, _⟩ := h; rfl) | (obtain ⟨_, _, _, _, _, _, _, _, _, _, rfl, _⟩ := h; rfl) | (obtain ⟨_, _, _, _, _, _, _, _, _, _, _, rfl, _⟩ := h; rfl) | (obtain ⟨_, _, _, _, _, _, _, _, _, _, _, _, rfl, _⟩ := h; rfl)) ⟨_, fun cdv A' outer s H E B F0 hr =>
      (pxs_open (i := 0) (pxs_shut (i := 0) (pxs_cons (px_ifS (pxt_w (pxw_and (pxt_lt rfl (px_atH (px_v 0) px_int) (px_v 1)) (pxw_and1 (pxt_lt rfl (px_atH (px_v 0) px_int) (px_len rfl T.b_len (px_atH (px_v 0) px_int)))))) (pxs_cons (px_set (i := 2) sc__law_draw.nd rfl (by first | exact .inl rfl | exact .inr rfl) (px_at rfl (px_atH (px_v 0) px_int) (px_atH (px_v 0) px_int)))
      (pxs_cons (px_setH (px_v 0) (px_add rfl (px_atH (px_v 0) px_int) px_int) px_int)
      (pxs_cons (px_setH (px_v 0) (px_mod rfl (px_add rfl (px_add rfl (px_mul rfl (px_atH (px_v 0) px_int) px_int) (px_v 2)) (px_atH (px_v 0) px_int)) px_int) px_int)
      (pxs_one (px_setH (px_v 0) (px_if (pxt_ge rfl (px_v 2) (px_pow rfl px_int px_int)) (px_v 2) px_int) px_int))))) pxs_nil)
      (pxs_cons (px_ifS (pxt_ge rfl (px_atH (px_v 0) px_int) (px_v 1)) (pxs_cons (px_set (i := 3) sc__law_draw.nd rfl (by first | exact .inl rfl | exact .inr rfl) (px_mod rfl (px_atH (px_v 0) px_int) (px_v 1)))
      (pxs_cons (px_setH (px_v 0) (px_div rfl (px_atH (px_v 0) px_int) (px_v 1)) px_int)
      (pxs_one (px_ret (px_v 3))))) pxs_nil)
      (pxs_cons (px_setH (px_v 0) (px_add rfl (px_atH (px_v 0) px_int) px_int) px_int)
      (pxs_cons (px_setH (px_v 0) (px_mod rfl (px_add rfl (px_add rfl (px_add rfl (px_pow rfl (px_atH (px_v 0) px_int) px_int) (px_mul rfl px_int (px_atH (px_v 0) px_int))) (px_div rfl (px_atH (px_v 0) px_int) px_int)) px_int) px_int) px_int)
      (pxs_one (px_ret (px_mod rfl (px_div rfl (px_atH (px_v 0) px_int) px_int) (px_v 1)))))))))), ?_⟩
  intro ds μ Q E hh
  obtain ⟨a, top, rfl, hj, ht, h⟩ := hd_of hh
  refine ⟨hj, fun ns it cr sd nn hok => ?_⟩
  obtain ⟨k1, k2, k3, k4, k5, k6⟩ := hok
  have same : ∀ l : List D, muSet μ a (.box l) a = some (.box l) := fun l => muSet_same
  have go : ∀ (it cr sd : Int) (x : Option SV) (ν : Mu), ν = muSet μ a (.box (jarL ns it cr sd nn)) → JarOk ns it cr sd nn → wDraw2 (shutR a (endsOf Q E)) [some (.val (.hnd a)), some (.val (.int top)), x, none] ν := fun it cr sd x ν e hok => by
    subst e
    exact draw2 ht h hj ns it cr sd nn hok x none
  refine rd_ok (same _) at_2 ?_
  refine (show True ∧ (if decide (cr < top) = true then _ else _) from ⟨trivial, ?_⟩)
  split
  · refine rd_ok (same _) at_1 ?_
    refine rd_ok (same _) at_0 ?_
    refine (show True ∧ (if decide (it < ((ns.map D.int).length : Int)) = true then _ else _) from ⟨trivial, ?_⟩)
    split
    · rename_i hit
      rw [decide_eq_true_eq, List.length_map] at hit
      refine rd_ok (same _) at_0 ?_
      refine rd_ok (same _) at_1 ?_
      have hlt : it.toNat < ns.length := by omega
      have eat : atI (ns.map D.int) it = some (.int ns[it.toNat]) := by
        have := atI_nat (l := ns.map D.int) (i := it.toNat) (d := .int ns[it.toNat]) (by rw [List.getElem?_map, List.getElem?_eq_getElem hlt]; rfl)
        rw [show ((it.toNat : Nat) : Int) = it from by omega] at this
        exact this
      generalize ns[it.toNat] = cell at eat
      show match atI (ns.map D.int) it with
        | some d => _
        | none => False
      rw [eat]
      refine rd_ok (same _) at_1 ?_
      refine wr_ok (same _) (show ixN 5 1 = some 1 from rfl) ?_
      refine rd_ok muSet_same (show _ = some (D.int sd) from rfl) (show (CMul sd 48271 ∨ CMulW sd 48271) ∧ _ from ⟨.inl (.inr ⟨by decide, by decide⟩), ?_⟩)
      refine rd_ok muSet_same (show _ = some (D.int (it + 1)) from rfl) (show (0 : Int) < 2147483629 ∧ _ from ⟨by decide, ?_⟩)
      refine wr_ok muSet_same (show ixN 5 3 = some 3 from rfl) ?_
      refine (show CPow 10 18 ∧ True ∧ (if decide ((10 : Int) ^ (18 : Int).toNat ≤ cell) = true then _ else _) from ⟨⟨by decide, by decide, by decide⟩, trivial, ?_⟩)
      have e3 : ∀ m1 m2 m3 m4 : MO, muSet (muSet (muSet (muSet μ a m1) a m2) a m3) a m4 = muSet μ a m4 := fun m1 m2 m3 m4 => by rw [muSet_set, muSet_set, muSet_set]
      have sd2 : 0 ≤ (sd * 48271 + cell + (it + 1)) % 2147483629 ∧ (sd * 48271 + cell + (it + 1)) % 2147483629 < 2147483629 := ⟨Int.emod_nonneg _ (by decide), Int.emod_lt_of_pos _ (by decide)⟩
      split
      · rename_i hc
        rw [decide_eq_true_eq] at hc
        have p18 : (0 : Int) ≤ (10 : Int) ^ (18 : Int).toNat := by decide
        refine wr_ok muSet_same (show ixN 5 2 = some 2 from rfl) ?_
        exact go (it + 1) cell _ (some (.val (.int cell))) _ (e3 _ _ _ _) ⟨k1, by omega, Int.le_trans p18 hc, sd2.1, sd2.2, k6⟩
      · refine wr_ok muSet_same (show ixN 5 2 = some 2 from rfl) ?_
        exact go (it + 1) 0 _ (some (.val (.int cell))) _ (e3 _ _ _ _) ⟨k1, by omega, by omega, sd2.1, sd2.2, k6⟩
    · exact go it cr sd none _ rfl ⟨k1, k2, k3, k4, k5, k6⟩
  · exact go it cr sd none _ rfl ⟨k1, k2, k3, k4, k5, k6⟩
def sp__law_words_table : SpD := fun ds μ Q _ => ∃ (a : Addr) (m : Int), ds = [.hnd a, .int m] ∧ μ a = some .jar ∧ (2 ≤ m ∧ m ≤ 4) ∧ ∀ t : List (List Int), GT t m → t.length ≤ 7 → Q (.fz (tabD t)) μ
theorem ok__law_words_table (T : TX c A) : FnOk c.P c.w c.K c.mg base (L2.CX c.P c.w) 2 A.f__law_words_table A.d__law_words_table ["_law_jar_here", "_law_base"] (spOf c (hd sp__law_words_table)) := by
  refine def_ok T.F__law_words_table sc__law_words_table (by intro ds μ Q E h; replace h := hd_of h; first | exact h.1 | (obtain ⟨rfl, _⟩ := h; rfl) | (obtain ⟨_, rfl, _⟩ := h; rfl) | (obtain ⟨_, _, rfl, _⟩ := h; rfl) | (obtain ⟨_, _, _, rfl, _⟩ := h; rfl) | (obtain ⟨_, _, _, _, rfl, _⟩ := h; rfl) | (obtain ⟨_, _, _, _, _, rfl, _⟩ := h; rfl) | (obtain ⟨_, _, _, _, _, _, rfl, _⟩ := h; rfl) | (obtain ⟨_, _, _, _, _, _, _, rfl, _⟩ := h; rfl) | (obtain ⟨_, _, _, _, _, _, _, _, rfl, _⟩ := h; rfl) | (obtain ⟨_, _, _, _, _, _, _, _, _, rfl, _⟩ := h; rfl) | (obtain ⟨_, _, _, _, _, _, _, _, _, _, rfl, _⟩ := h; rfl) | (obtain ⟨_, _, _, _, _, _, _, _, _, _, _, rfl, _⟩ := h; rfl) | (obtain ⟨_, _, _, _, _, _, _, _, _, _, _, _, rfl, _⟩ := h; rfl)) ⟨_, fun cdv A' outer s H E B F0 hr =>
      (pxs_cons (px_set (i := 2) sc__law_words_table.nd rfl (by first | exact .inl rfl | exact .inr rfl) (px_add rfl px_int (px_call (ok__law_draw T) (hr.mono (by first | decide | omega)) rfl T.m__law_draw T.k__law_draw (b__law_draw T) .nil (fun _ => .nil) (takes_of rfl rfl rfl rfl) (px_cons (px_v 0) (px_cons px_int px_nil)))))
      (pxs_cons (px_setO (i := 3) sc__law_words_table.nd rfl (by first | exact .inl rfl | exact .inr rfl) (px_lst px_nil))
      (pxs_cons (px_for (passes_of rfl) rfl (px_rng1 T.b_range (px_v 2)) (px_gnm (i := 4) sc__law_words_table.nd rfl (by first | exact .inl rfl | exact .inr rfl)) (pxs_one (px_append (i := 3) rfl (by first | exact Or.inl rfl | exact Or.inr (Or.inl rfl) | exact Or.inr (Or.inr rfl)) (px_tuple rfl T.b_tuple (px_lc (own := [("_law_sign", 5)]) rfl sc__law_words_table.nd (px_rng1 T.b_range (px_v 1)) (blkOk_by (N := N__law_words_table) (sc := defScope s__law_words_table) (by decide +kernel)) (by decide) (fun _ _ _ _ _ _ => (px_gnm (i := 5) sc__law_words_table.nd rfl (by first | exact .inl rfl | exact .inr rfl))) (fun _ _ _ _ _ => px_tsNil) (fun _ _ _ _ _ _ => (px_at rfl (px_lst (px_cons (px_call (ok__law_draw T) (hr.mono (by first | decide | omega)) rfl T.m__law_draw T.k__law_draw (b__law_draw T) .nil (fun _ => .nil) L2.takes0 (px_cons (px_v 0) (px_cons (px_v 2) px_nil))) (px_cons (px_neg px_int) px_nil))) (px_intOf T.b_int (px_eq hr.units rfl (px_call (ok__law_draw T) (hr.mono (by first | decide | omega)) rfl T.m__law_draw T.k__law_draw (b__law_draw T) .nil (fun _ => .nil) L2.takes0 (px_cons (px_v 0) (px_cons px_int px_nil))) px_int)))))))))
      (pxs_cons (px_ifS (pxt_w (pxw_and (pxt_gt rfl (px_v 2) px_int) (pxw_and1 (pxt_eq hr.units rfl (px_call (ok__law_draw T) (hr.mono (by first | decide | omega)) rfl T.m__law_draw T.k__law_draw (b__law_draw T) .nil (fun _ => .nil) (takes_of rfl rfl rfl rfl) (px_cons (px_v 0) (px_cons px_int px_nil))) px_int)))) (pxs_one (px_setI (i := 3) rfl (by first | exact Or.inl rfl | exact Or.inr (Or.inl rfl) | exact Or.inr (Or.inr rfl)) (px_at rfl (px_v 3) (px_sub rfl (px_v 2) px_int)) (px_sub rfl (px_v 2) px_int))) pxs_nil)
      (pxs_one (px_ret (px_tuple rfl T.b_tuple (px_v 3)))))))), ?_⟩
  intro ds μ Q E hh
  obtain ⟨a, m, rfl, hj, hm, h⟩ := hd_of hh
  have dr : ∀ top : Int, 0 < top → top < 2 ^ 64 → 0 < top ∧ top.natAbs.log2 < 9000 := fun top h1 h2 => ⟨h1, log_small ⟨h1, h2⟩⟩
  refine seq_cut (fun e u => u = μ ∧ ∃ n : Int, (1 ≤ n ∧ n ≤ 7) ∧ e = [some (.val (.hnd a)), some (.val (.int m)), some (.val (.int n)), none, none, none]) (fun K hK => ?_) ?_
  · exact go ⟨a, 7, rfl, hj, dr 7 (by decide) (by decide), fun z hz => hK _ _ ⟨rfl, _, by omega, rfl⟩⟩
  rintro env u ⟨rfl, n, hn, rfl⟩
  refine ⟨z_le (show 0 ≤ 100000 by decide), by omega, by omega, forL_ix (fun k e v => v = u ∧ ∃ (rs : List (List Int)) (x4 : Option SV), rs.length = k ∧ (∀ r ∈ rs, (r.length : Int) = m ∧ ∀ x ∈ r, -1 ≤ x ∧ x < n) ∧ e = [some (.val (.hnd a)), some (.val (.int m)), some (.val (.int n)), some (.own (.lst (rs.map rowD))), x4, none]) _ _ _ ⟨rfl, [], _, rfl, (fun r hr => by cases hr), rfl⟩ ?_ ?_⟩
  · rintro k d hd env v K ⟨rfl, rs, x4, hl, hr, rfl⟩ hK
    obtain ⟨hk, rfl⟩ := rng_at hd
    refine (show -(2 ^ 62) ≤ m ∧ m < 2 ^ 62 ∧ noOwn _ [5] = true ∧ _ from ⟨by omega, by omega, rfl, lcl_ints (fun x => -1 ≤ x ∧ x < n) _ [] (fun d hd P hP => ?_) ?_ ?_⟩)
    · refine go ⟨a, n, rfl, hj, dr n (by omega) (by omega), fun y hy => ⟨two_le, go ⟨a, 4, rfl, hj, dr 4 (by decide) (by decide), fun q hq => ?_⟩⟩⟩
      by_cases c : q = 0
      · subst c
        exact hP _ (by omega)
      · show dIx (.lst [.int y, .int (-1)]) (.int (if decide (q = 0) = true then 1 else 0)) (fun r => r.still fun y => P y v)
        rw [decide_eq_false c]
        exact hP _ (by omega)
    · rw [List.length_map, List.length_range]
      exact z_le (by show 0 + m.toNat ≤ 100000; omega)
    · intro ks hks hx
      rw [List.length_map, List.length_range] at hks
      have hk7 : k < 7 := by omega
      refine ⟨by rw [List.length_map, hl]; exact Nat.lt_of_lt_of_le hk7 (z_le (by decide)), hK _ _ ⟨rfl, rs ++ [ks], _, by rw [List.length_append, hl]; rfl, fun r hr' => ?_, by rw [List.map_append]; rfl⟩⟩
      rcases List.mem_append.mp hr' with h1 | h1
      · exact hr r h1
      · rw [List.mem_singleton.mp h1]
        exact ⟨by omega, hx⟩
  · rintro env v ⟨rfl, rs, x4, hl, hr, rfl⟩
    rw [List.length_map, List.length_range] at hl
    have mk : ∀ ts : List (List Int), ts.length = rs.length → (∀ r ∈ ts, r ∈ rs) → GT ts m := fun ts e1 e2 => by
      refine ⟨hm, by omega, by omega, fun r hr' => (hr r (e2 r hr')).1, fun r hr' x hx => ?_⟩
      have := (hr r (e2 r hr')).2 x hx
      omega
    dsimp only
    refine seq_cut (fun e w => w = v ∧ ∃ ts : List (List Int), GT ts m ∧ ts.length ≤ 7 ∧ e = [some (.val (.hnd a)), some (.val (.int m)), some (.val (.int n)), some (.own (.lst (ts.map rowD))), x4, none]) (fun K hK => ?_) ?_
    · have stay := hK _ _ ⟨rfl, rs, mk rs rfl fun r h => h, by omega, rfl⟩
      by_cases c : n > 2
      · refine ⟨trivial, iteT (decide_eq_true c) (go ⟨a, 3, rfl, hj, dr 3 (by decide) (by decide), fun q hq => ?_⟩)⟩
        by_cases c2 : q = 0
        · refine iteT (decide_eq_true c2) ⟨trivial, dIx_seq (x := .lst (rs.map rowD)) rfl (tab_row (t := rs) ⟨by omega, by omega⟩) ⟨trivial, ?_⟩⟩
          show match ixN (rs.map rowD).length (n - 1) with
            | some j => _
            | none => False
          rw [ixN_in ⟨by omega, by rw [List.length_map]; omega⟩]
          refine hK _ _ ⟨rfl, rs.set (n - 1).toNat (rowOf rs (n - 2)), mk _ List.length_set fun r hr' => ?_, by rw [List.length_set]; omega, by rw [List.map_set]; rfl⟩
          rcases List.mem_or_eq_of_mem_set hr' with h1 | h1
          · exact h1
          · rw [h1]
            exact rowOf_mem ⟨by omega, by omega⟩
        · exact iteF (decide_eq_false c2) stay
      · exact ⟨trivial, iteF (decide_eq_false c) stay⟩
    rintro env w ⟨rfl, ts, hT, ht, rfl⟩
    exact h ts hT ht
end
end PD
set_option Elab.async false
set_option linter.all false
set_option maxRecDepth 100000
set_option maxHeartbeats 4000000
set_option pp.maxSteps 3000
set_option pp.deepTerms false
set_option pp.deepTerms.threshold 18
namespace PD
open PySem PySem.Spec L2
section
variable {c : Cfg} {A : Ad} {base : Heap}
def sp__law_rows_alike : SpD := fun ds μ Q _ => ∃ (t : List (List Int)) (m i j : Int), ds = [tabD t, .int i, .int j, .int m] ∧ GT t m ∧ t.length ≤ 30 ∧ (0 ≤ i ∧ i < t.length) ∧ (0 ≤ j ∧ j < t.length) ∧ Q (.fz (.bl (aliB t m i j))) μ
theorem ok__law_rows_alike (T : TX c A) : FnOk c.P c.w c.K c.mg base (L2.CX c.P c.w) 1 A.f__law_rows_alike A.d__law_rows_alike ["_law_table", "_law_one", "_law_two", "_law_base"] (spOf c (hd sp__law_rows_alike)) := by
  refine def_ok T.F__law_rows_alike sc__law_rows_alike (by intro ds μ Q E h; replace h := hd_of h; first | exact h.1 | (obtain ⟨rfl, _⟩ := h; rfl) | (obtain ⟨_, rfl, _⟩ := h; rfl) | (obtain ⟨_, _, rfl, _⟩ := h; rfl) | (obtain ⟨_, _, _, rfl, _⟩ := h; rfl) | (obtain ⟨_, _, _, _, rfl, _⟩ := h; rfl) | (obtain ⟨_, _, _, _, _, rfl, _⟩ := h; rfl) | (obtain ⟨_, _, _, _, _, _, rfl, _⟩ := h; rfl) | (obtain ⟨_, _, _, _, _, _, _, rfl, _⟩ := h; rfl) | (obtain ⟨_, _, _, _, _, _, _, _, rfl, _⟩ := h; rfl) | (obtain ⟨_, _, _, _, _, _, _, _, _, rfl, _⟩ := h; rfl) | (obtain ⟨_, _, _, _, _, _, _, _, _, _, rfl, _⟩ := h; rfl) | (obtain ⟨_, _, _, _, _, _, _, _, _, _, _, rfl, _⟩ := h; rfl) | (obtain ⟨_, _, _, _, _, _, _, _, _, _, _, _, rfl, _⟩ := h; rfl)) ⟨_, fun cdv A' outer s H E B F0 hr =>
      (pxs_cons (px_setO (i := 4) sc__law_rows_alike.nd rfl (by first | exact .inl rfl | exact .inr rfl) (px_lst (px_cons (px_tup (px_cons (px_v 1) (px_cons (px_v 2) px_nil))) px_nil)))
      (pxs_cons (px_set (i := 5) sc__law_rows_alike.nd rfl (by first | exact .inl rfl | exact .inr rfl) px_int)
      (pxs_cons (px_while (passes_of rfl) (pxt_lt rfl (px_v 5) (px_len rfl T.b_len (px_v 4))) (pxs_cons (px_asgG (px_atO rfl (px_v 4) (px_v 5)) (px_gtp (n := 2) rfl rfl (px_gscons (px_gnm (i := 6) sc__law_rows_alike.nd rfl (by first | exact .inl rfl | exact .inr rfl)) (px_gscons (px_gnm (i := 7) sc__law_rows_alike.nd rfl (by first | exact .inl rfl | exact .inr rfl)) px_gsnil))))
      (pxs_cons (px_set (i := 5) sc__law_rows_alike.nd rfl (by first | exact .inl rfl | exact .inr rfl) (px_add rfl (px_v 5) px_int))
      (pxs_one (px_for (passes_of rfl) rfl (px_rng1 T.b_range (px_v 3)) (px_gnm (i := 8) sc__law_rows_alike.nd rfl (by first | exact .inl rfl | exact .inr rfl)) (pxs_cons (px_set (i := 9) sc__law_rows_alike.nd rfl (by first | exact .inl rfl | exact .inr rfl) (px_tup (px_cons (px_atO rfl (px_atO rfl (px_v 0) (px_v 6)) (px_v 8)) (px_cons (px_atO rfl (px_atO rfl (px_v 0) (px_v 7)) (px_v 8)) px_nil))))
      (pxs_cons (px_ifS (pxt_ne hr.units rfl (px_lt rfl (px_atO rfl (px_v 9) px_int) px_int) (px_lt rfl (px_atO rfl (px_v 9) px_int) px_int)) (pxs_one (px_ret px_bl)) pxs_nil)
      (pxs_one (px_ifS (pxt_w (pxw_and (pxt_ge rfl (px_atO rfl (px_v 9) px_int) px_int) (pxw_and1 (pxt_notinL hr.u65 rfl (px_v 9) (px_v 4))))) (pxs_one (px_append (i := 4) rfl (by first | exact Or.inl rfl | exact Or.inr (Or.inl rfl) | exact Or.inr (Or.inr rfl)) (px_v 9))) pxs_nil)))))))))
      (pxs_one (px_ret px_bl))))), ?_⟩
  intro ds μ Q E hh
  obtain ⟨t, m, i, j, rfl, g, hn, hi, hj, h⟩ := hd_of hh
  have hm := g.hm
  obtain ⟨N, hN⟩ : ∃ N, N = t.length * t.length := ⟨_, rfl⟩
  have hN9 : N ≤ 900 := by rw [hN]; exact Nat.mul_le_mul hn hn
  refine ⟨two_le, one_le, wh_go (fun k e u => u = μ ∧ ∃ (ws : List (List Int)) (st : Nat) (x6 x7 x8 x9 : Option SV), Prr t m i j ws ∧ st ≤ ws.length ∧ k + st = N + 1 ∧ (∀ a, a < st → ∀ x y : Int, ws[a]? = some [x, y] → ∀ s, 0 ≤ s → s < m → Clo ws (stp t x s) (stp t y s)) ∧
    e = [some (.val (tabD t)), some (.val (.int i)), some (.val (.int j)), some (.val (.int m)), some (.own (.lst (ws.map wordD))), some (.val (.int (st : Nat))), x6, x7, x8, x9]) (N + 1) ⟨rfl, [[i, j]], 0, _, _, _, _, Prr.start hi hj, Nat.zero_le _, rfl, (fun a ha => by cases ha), rfl⟩ ?_⟩
  rintro k env u K hK ⟨rfl, ws, st, x6, x7, x8, x9, pr, hst, hk, cl, rfl⟩
  have hle := pr.le
  rw [← hN] at hle
  have el : (((ws.map wordD).length : Nat) : Int) = ws.length := by rw [List.length_map]
  by_cases c : st < ws.length
  · refine ⟨trivial, ?_⟩
    show if decide (((st : Nat) : Int) < (((ws.map wordD).length : Nat) : Int)) = true then _ else _
    rw [if_pos (decide_eq_true (by omega))]
    obtain ⟨x, y, ew, hx, hy, _⟩ := pr.ok _ (List.getElem_mem c)
    have e1 : ws[st]? = some [x, y] := by rw [List.getElem?_eq_getElem c, ew]
    have e2 : (ws.map wordD)[st]? = some (.tup [.int x, .int y]) := by rw [List.getElem?_map, e1]; rfl
    refine ixo (dIx_seq (x := .lst (ws.map wordD)) rfl (atI_nat e2) ⟨rfl, by omega, by omega, ?_⟩)
    refine forL_ix (fun q e v => v = u ∧ ∃ (vs : List (List Int)) (x8 x9 : Option SV), Prr t m i j vs ∧ vs[st]? = some [x, y] ∧ (∀ a, a < st → ∀ x y : Int, vs[a]? = some [x, y] → ∀ s, 0 ≤ s → s < m → Clo vs (stp t x s) (stp t y s)) ∧ (∀ s : Int, 0 ≤ s → s < (q : Nat) → Clo vs (stp t x s) (stp t y s)) ∧
      e = [some (.val (tabD t)), some (.val (.int i)), some (.val (.int j)), some (.val (.int m)), some (.own (.lst (vs.map wordD))), some (.val (.int ((st : Nat) + 1))), some (.val (.int x)), some (.val (.int y)), x8, x9]) _ _ _ ⟨rfl, ws, _, _, pr, e1, cl, (fun s h0 h1 => by omega), rfl⟩ ?_ ?_
    · rintro q d hd env v K2 ⟨rfl, vs, x8, x9, pr2, e3, cl2, cs, rfl⟩ hK2
      obtain ⟨hq, rfl⟩ := rng_at hd
      have hs : 0 ≤ ((q : Nat) : Int) ∧ ((q : Nat) : Int) < m := by omega
      have mem : [x, y] ∈ vs := List.mem_of_getElem? e3
      have hle2 := pr2.le
      rw [← hN] at hle2
      have rx := row_lens g hx
      have ry := row_lens g hy
      obtain ⟨x', ex⟩ : ∃ x', x' = stp t x (q : Nat) := ⟨_, rfl⟩
      obtain ⟨y', ey⟩ : ∃ y', y' = stp t y (q : Nat) := ⟨_, rfl⟩
      have p0 : ∀ {a b : D} {Q : R → Prop}, Q (.fz a) → dIxO (.tup [a, b]) (.int 0) Q := fun q => ixo q
      have p1 : ∀ {a b : D} {Q : R → Prop}, Q (.fz b) → dIxO (.tup [a, b]) (.int 1) Q := fun q => ixo q
      refine seq_cut (fun e w => w = v ∧ e = [some (.val (tabD t)), some (.val (.int i)), some (.val (.int j)), some (.val (.int m)), some (.own (.lst (vs.map wordD))), some (.val (.int ((st : Nat) + 1))), some (.val (.int x)), some (.val (.int y)), some (.val (.int (q : Nat))), some (.val (.tup [.int x', .int y']))]) (fun K3 hK3 => ?_) ?_
      · refine ixo (dIx_tab hx (ixo (dIx_row ⟨hs.1, by omega⟩ (ixo (dIx_tab hy (ixo (dIx_row ⟨hs.1, by omega⟩ ⟨two_le, ?_⟩)))))))
        rw [row_at g hx hs, row_at g hy hs, ← ex, ← ey]
        exact hK3 _ _ ⟨rfl, rfl⟩
      rintro env w ⟨rfl, rfl⟩
      have hx' := stp_rg g hx hs
      have hy' := stp_rg g hy hs
      rw [← ex] at hx'
      rw [← ey] at hy'
      by_cases cc : (x' < 0 ↔ y' < 0)
      · refine seq_cut (fun e z => z = w ∧ e = [some (.val (tabD t)), some (.val (.int i)), some (.val (.int j)), some (.val (.int m)), some (.own (.lst (vs.map wordD))), some (.val (.int ((st : Nat) + 1))), some (.val (.int x)), some (.val (.int y)), some (.val (.int (q : Nat))), some (.val (.tup [.int x', .int y']))]) (fun K3 hK3 => ?_) ?_
        · refine p0 ⟨trivial, p1 ⟨trivial, ?_⟩⟩
          exact iteF (b := !decide (decide (x' < 0) = decide (y' < 0))) (by rw [decide_eq_true (by rw [decide_eq_decide]; exact cc)]; rfl) (hK3 _ _ ⟨rfl, rfl⟩)
        rintro env z ⟨rfl, rfl⟩
        have fin : ∀ vs' : List (List Int), (∃ e, vs' = vs ++ e) → Prr t m i j vs' → Clo vs' x' y' → K2 [some (.val (tabD t)), some (.val (.int i)), some (.val (.int j)), some (.val (.int m)), some (.own (.lst (vs'.map wordD))), some (.val (.int ((st : Nat) + 1))), some (.val (.int x)), some (.val (.int y)), some (.val (.int (q : Nat))), some (.val (.tup [.int x', .int y']))] z := fun vs' he pr' hc => by
          obtain ⟨e, rfl⟩ := he
          refine hK2 _ _ ⟨rfl, vs ++ e, _, _, pr', ?_, fun a ha x2 y2 ea s h0 h1 => ?_, fun s h0 h1 => ?_, rfl⟩
          · have hlt := (List.getElem?_eq_some_iff.mp e3).1
            rw [List.getElem?_append_left hlt]
            exact e3
          · have hlt := (List.getElem?_eq_some_iff.mp e3).1
            rw [List.getElem?_append_left (by omega)] at ea
            exact (cl2 a ha x2 y2 ea s h0 h1).more
          · by_cases cs' : s < (q : Nat)
            · exact (cs s h0 cs').more
            · obtain rfl : s = (q : Nat) := by omega
              rw [← ex, ← ey]
              exact hc
        by_cases c0 : 0 ≤ x'
        · by_cases no : [x', y'] ∈ vs
          · refine p0 ⟨trivial, iteT (decide_eq_true c0) ⟨eqok_wordD (w := [x', y']), eqok_words, ?_⟩⟩
            exact iteF (b := not ((vs.map wordD).any fun z => eqv z (wordD [x', y']))) (by rw [any_words, decide_eq_true no]; rfl) (fin vs ⟨[], (List.append_nil _).symm⟩ pr2 ⟨cc, fun _ => no⟩)
          · refine p0 ⟨trivial, iteT (decide_eq_true c0) ⟨eqok_wordD (w := [x', y']), eqok_words, ?_⟩⟩
            refine iteT (b := not ((vs.map wordD).any fun z => eqv z (wordD [x', y']))) (by rw [any_words, decide_eq_false no]; rfl) ⟨by rw [List.length_map]; exact Nat.lt_of_le_of_lt hle2 (Nat.lt_of_le_of_lt hN9 (by decide)), ?_⟩
            have ad := pr2.add g mem hs (by rw [← ex]; exact c0) (by rw [← ey]; omega) (by rw [← ex, ← ey]; exact no)
            rw [← ex, ← ey] at ad
            have := fin (vs ++ [[x', y']]) ⟨_, rfl⟩ ad ⟨cc, fun _ => List.mem_append_right _ (List.mem_cons_self ..)⟩
            rw [List.map_append] at this
            exact this
        · exact p0 ⟨trivial, iteF (decide_eq_false c0) (fin vs ⟨[], (List.append_nil _).symm⟩ pr2 ⟨cc, fun z => absurd z c0⟩)⟩
      · refine p0 ⟨trivial, p1 ⟨trivial, ?_⟩⟩
        refine iteT (b := !decide (decide (x' < 0) = decide (y' < 0))) (by rw [decide_eq_false (by rw [decide_eq_decide]; exact cc)]; rfl) ?_
        rw [pr2.apart mem hs (by rw [← ex, ← ey]; exact cc)] at h
        exact h
    · rintro env v ⟨rfl, vs, x8, x9, pr2, e3, cl2, cs, rfl⟩
      rw [List.length_map, List.length_range] at cs
      have hlt := (List.getElem?_eq_some_iff.mp e3).1
      refine hK _ _ (k - 1) (by omega) ⟨rfl, vs, st + 1, _, _, _, _, pr2, hlt, by omega, fun a ha x' y' ea s h0 h1 => ?_, rfl⟩
      by_cases ca : a < st
      · exact cl2 a ca x' y' ea s h0 h1
      · obtain rfl : a = st := by omega
        rw [e3] at ea
        cases ea
        exact cs s h0 (by omega)
  · refine ⟨trivial, ?_⟩
    show if decide (((st : Nat) : Int) < (((ws.map wordD).length : Nat) : Int)) = true then _ else _
    rw [if_neg (by rw [decide_eq_false (by omega)]; decide)]
    have := pr.alike fun x y hw s h0 h1 => by
      obtain ⟨a, ha, e⟩ := List.mem_iff_getElem.mp hw
      exact cl a (by omega) x y (by rw [List.getElem?_eq_getElem ha, e]) s h0 h1
    rw [this] at h
    exact h
def sp__law_least_table : SpD := fun ds μ Q _ => ∃ (t : List (List Int)) (m : Int), ds = [tabD t, .int m] ∧ GT t m ∧ t.length ≤ 30 ∧ Q (.fz (tabD (leastA t m))) μ
theorem ok__law_least_table (T : TX c A) : FnOk c.P c.w c.K c.mg base (L2.CX c.P c.w) 2 A.f__law_least_table A.d__law_least_table ["_law_table", "_law_base"] (spOf c (hd sp__law_least_table)) := by
  refine def_ok T.F__law_least_table sc__law_least_table (by intro ds μ Q E h; replace h := hd_of h; first | exact h.1 | (obtain ⟨rfl, _⟩ := h; rfl) | (obtain ⟨_, rfl, _⟩ := h; rfl) | (obtain ⟨_, _, rfl, _⟩ := h; rfl) | (obtain ⟨_, _, _, rfl, _⟩ := h; rfl) | (obtain ⟨_, _, _, _, rfl, _⟩ := h; rfl) | (obtain ⟨_, _, _, _, _, rfl, _⟩ := h; rfl) | (obtain ⟨_, _, _, _, _, _, rfl, _⟩ := h; rfl) | (obtain ⟨_, _, _, _, _, _, _, rfl, _⟩ := h; rfl) | (obtain ⟨_, _, _, _, _, _, _, _, rfl, _⟩ := h; rfl) | (obtain ⟨_, _, _, _, _, _, _, _, _, rfl, _⟩ := h; rfl) | (obtain ⟨_, _, _, _, _, _, _, _, _, _, rfl, _⟩ := h; rfl) | (obtain ⟨_, _, _, _, _, _, _, _, _, _, _, rfl, _⟩ := h; rfl) | (obtain ⟨_, _, _, _, _, _, _, _, _, _, _, _, rfl, _⟩ := h; rfl)) ⟨_, fun cdv A' outer s H E B F0 hr =>
      (pxs_cons (px_setO (i := 2) sc__law_least_table.nd rfl (by first | exact .inl rfl | exact .inr rfl) (px_lst (px_cons px_int px_nil)))
      (pxs_cons (px_setO (i := 3) sc__law_least_table.nd rfl (by first | exact .inl rfl | exact .inr rfl) (px_lst px_nil))
      (pxs_cons (px_set (i := 4) sc__law_least_table.nd rfl (by first | exact .inl rfl | exact .inr rfl) px_int)
      (pxs_cons (px_while (passes_of rfl) (pxt_lt rfl (px_v 4) (px_len rfl T.b_len (px_v 2))) (pxs_cons (px_setO (i := 5) sc__law_least_table.nd rfl (by first | exact .inl rfl | exact .inr rfl) (px_lst px_nil))
      (pxs_cons (px_for (passes_of rfl) rfl (px_it rfl (px_atO rfl (px_v 0) (px_atO rfl (px_v 2) (px_v 4)))) (px_gnm (i := 6) sc__law_least_table.nd rfl (by first | exact .inl rfl | exact .inr rfl)) (pxs_cons (px_setLc (i := 7) (own := [("_law_spot", 8)]) rfl sc__law_least_table.nd rfl rfl (sw_true rfl rfl rfl (by decide +kernel)) (px_rng1 T.b_range (px_len rfl T.b_len (px_v 2))) (blkOk_by (N := N__law_least_table) (sc := defScope s__law_least_table) (by decide +kernel)) (by decide) (fun _ _ _ _ _ _ => (px_gnm (i := 8) sc__law_least_table.nd rfl (by first | exact .inl rfl | exact .inr rfl))) (fun _ _ _ _ _ => (px_tsOne (fun _ => (pxt_w (pxw_and (pxt_ge rfl (px_v 6) px_int) (pxw_and1 (pxt_val (px_call (ok__law_rows_alike T) (hr.mono (by first | decide | omega)) rfl T.m__law_rows_alike T.k__law_rows_alike (b__law_rows_alike T) .nil (fun _ => .nil) L2.takes0 (px_cons (px_v 0) (px_cons (px_atO rfl (px_v 2) (px_v 8)) (px_cons (px_v 6) (px_cons (px_v 1) px_nil)))))))))))) (fun _ _ _ _ _ _ => (px_v 8)))
      (pxs_cons (px_ifS (pxt_w (pxw_and (pxt_ge rfl (px_v 6) px_int) (pxw_and1 (pxt_eq hr.units rfl (px_v 7) (px_lst px_nil))))) (pxs_cons (px_set (i := 7) sc__law_least_table.nd rfl (by first | exact .inl rfl | exact .inr rfl) (px_lst (px_cons (px_len rfl T.b_len (px_v 2)) px_nil)))
      (pxs_one (px_append (i := 2) rfl (by first | exact Or.inl rfl | exact Or.inr (Or.inl rfl) | exact Or.inr (Or.inr rfl)) (px_v 6)))) pxs_nil)
      (pxs_one (px_append (i := 5) rfl (by first | exact Or.inl rfl | exact Or.inr (Or.inl rfl) | exact Or.inr (Or.inr rfl)) (px_atO rfl (px_add rfl (px_v 7) (px_lst (px_cons (px_neg px_int) px_nil))) px_int))))))
      (pxs_cons (px_append (i := 3) rfl (by first | exact Or.inl rfl | exact Or.inr (Or.inl rfl) | exact Or.inr (Or.inr rfl)) (px_tuple rfl T.b_tuple (px_v 5)))
      (pxs_one (px_set (i := 4) sc__law_least_table.nd rfl (by first | exact .inl rfl | exact .inr rfl) (px_add rfl (px_v 4) px_int)))))))
      (pxs_one (px_ret (px_tuple rfl T.b_tuple (px_v 3)))))))), ?_⟩
  intro ds μ Q E hh
  obtain ⟨t, m, rfl, g, hn, h⟩ := hd_of hh
  have hm := g.hm
  refine ⟨one_le, z_le (show 0 ≤ 100000 by decide), wh_go (fun k e u => u = μ ∧ ∃ (q : List Int) (f : List (List Int)) (x5 x6 x7 : Option SV), StA t m (q, f) ∧ lrun t m k (q, f) = leastP t m ∧ k + f.length = t.length + 1 ∧
    e = [some (.val (tabD t)), some (.val (.int m)), some (.own (.lst (q.map .int))), some (.own (.lst (f.map wordD))), some (.val (.int (f.length : Nat))), x5, x6, x7, none]) (t.length + 1) ⟨rfl, [0], [], _, _, _, StA.start g, rfl, rfl, rfl⟩ ?_⟩
  rintro k env u K hK ⟨rfl, q, f, x5, x6, x7, st, hr, hk, rfl⟩
  have hq : q.length ≤ t.length := st.met.le
  have hf : f.length ≤ q.length := st.le
  have el : (((q.map D.int).length : Nat) : Int) = q.length := by rw [List.length_map]
  by_cases c : f.length < q.length
  · refine ⟨trivial, ?_⟩
    show if decide (((f.length : Nat) : Int) < (((q.map D.int).length : Nat) : Int)) = true then _ else _
    rw [if_pos (decide_eq_true (by omega))]
    have hi := st.met.at c
    obtain ⟨r, er⟩ : ∃ r, r = rowOf t (q.getD f.length 0) := ⟨_, rfl⟩
    have hrg : ∀ x ∈ r, -1 ≤ x ∧ x < t.length := by rw [er]; exact row_rg g hi
    have lr : r.length ≤ 4 := by have := row_lens g hi; rw [← er] at this; omega
    have es : stepA t m (q, f) = ((r.foldl (visA t m) (q, [])).1, f ++ [(r.foldl (visA t m) (q, [])).2]) := by rw [er]; rfl
    refine ⟨z_le (show 0 ≤ 100000 by decide), ixo (dIx_ints ⟨by omega, by omega⟩ ?_)⟩
    rw [Int.toNat_natCast]
    refine ixo (dIx_tab hi ?_)
    rw [← er]
    refine forL_ix (fun s e v => v = u ∧ ∃ (p : List Int × List Int) (x6 x7 : Option SV), p = (r.take s).foldl (visA t m) (q, []) ∧
      e = [some (.val (tabD t)), some (.val (.int m)), some (.own (.lst (p.1.map .int))), some (.own (.lst (f.map wordD))), some (.val (.int (f.length : Nat))), some (.own (.lst (p.2.map .int))), x6, x7, none]) _ _ _ ⟨rfl, (q, []), _, _, rfl, rfl⟩ ?_ ?_
    · rintro s d hd env v K2 ⟨rfl, p, y6, y7, ep, rfl⟩ hK2
      rw [List.getElem?_map] at hd
      obtain ⟨to, et, rfl⟩ := Option.map_eq_some_iff.mp hd
      have hto := hrg to (List.mem_of_getElem? et)
      have hmet : Met t m p.1 := by
        rw [ep]
        exact (fold_ok (r.take s) [] (q, []) st.met (fun x hx => hrg x (List.mem_of_mem_take hx)) ⟨rfl, fun x hx => by cases hx⟩).1
      have hp2 : p.2.length ≤ 4 := by
        rw [ep, (fold_ok (r.take s) [] (q, []) st.met (fun x hx => hrg x (List.mem_of_mem_take hx)) ⟨rfl, fun x hx => by cases hx⟩).2.2.1]
        rw [List.nil_append, List.length_take]
        omega
      have hpl := hmet.le
      have next : (r.take (s + 1)).foldl (visA t m) (q, []) = visA t m p to := by
        rw [List.take_add_one, et, List.foldl_append, ← ep]
        rfl
      have lp : (p.1.map D.int).length = p.1.length := List.length_map ..
      refine seq_cut (fun e w => w = v ∧ e = [some (.val (tabD t)), some (.val (.int m)), some (.own (.lst (p.1.map .int))), some (.own (.lst (f.map wordD))), some (.val (.int (f.length : Nat))), some (.own (.lst (p.2.map .int))), some (.val (.int to)), some (.val (.lst ((spots t m p.1 to).map .int))), none]) (fun K3 hK3 => ?_) ?_
      · refine (show -(2 ^ 62) ≤ (((p.1.map D.int).length : Nat) : Int) ∧ (((p.1.map D.int).length : Nat) : Int) < 2 ^ 62 ∧ noOwn _ [8] = true ∧ _ from ⟨by omega, by omega, rfl, lcl_filter (spotP t m p.1 to) id _ [] (fun d hd A Z hA hZ => ?_) ?_ ?_⟩)
        · obtain ⟨i, hi', rfl⟩ := List.mem_map.mp hd
          have hi' := List.mem_range.mp hi'
          rw [Int.toNat_natCast, lp] at hi'
          by_cases c0 : 0 ≤ to
          · refine ⟨trivial, iteT (decide_eq_true c0) (ixo (dIx_ints ⟨by omega, by omega⟩ ?_))⟩
            refine go ⟨t, m, p.1.getD i 0, to, rfl, g, hn, hmet.at hi', ⟨c0, hto.2⟩, ?_⟩
            have eP : spotP t m p.1 to (.int (i : Nat)) = aliB t m (p.1.getD i 0) to := by
              show (decide (0 ≤ to) && aliB t m (p.1.getD ((i : Nat) : Int).toNat 0) to) = _
              rw [Int.toNat_natCast, decide_eq_true c0, Bool.true_and]
            cases cz : aliB t m (p.1.getD i 0) to with
            | true => exact hA (eP.trans cz)
            | false => exact hZ (eP.trans cz)
          · refine ⟨trivial, iteF (decide_eq_false c0) ?_⟩
            exact hZ (by show (decide (0 ≤ to) && _) = false; rw [decide_eq_false c0, Bool.false_and])
        · rw [List.length_map, List.length_range, lp]
          exact z_le (by show 0 + ((p.1.length : Nat) : Int).toNat ≤ 100000; omega)
        · rw [List.nil_append, List.map_id, Int.toNat_natCast, lp, spots_D]
          exact hK3 _ _ ⟨rfl, rfl⟩
      rintro env w ⟨rfl, rfl⟩
      have lsp := spots_le (t := t) (m := m) (q := p.1) (to := to)
      obtain ⟨al, eal⟩ : ∃ al, al = spots t m p.1 to := ⟨_, rfl⟩
      rw [← eal] at lsp ⊢
      refine seq_cut (fun e z => z = w ∧ ∃ (x7 : List Int) (v : Int), visA t m p to = ((visA t m p to).1, p.2 ++ [v]) ∧ x7.length ≤ 30 ∧ (x7.map D.int ++ [D.int (-1)])[0]? = some (.int v) ∧ e = [some (.val (tabD t)), some (.val (.int m)), some (.own (.lst ((visA t m p to).1.map .int))), some (.own (.lst (f.map wordD))), some (.val (.int (f.length : Nat))), some (.own (.lst (p.2.map .int))), some (.val (.int to)), some (.val (.lst (x7.map .int))), none]) (fun K3 hK3 => ?_) ?_
      · by_cases c0 : 0 ≤ to
        · have hd := spots_head (t := t) (m := m) (q := p.1) c0
          rw [← eal] at hd
          refine ⟨trivial, iteT (decide_eq_true c0) ⟨z_le (show 0 ≤ 100000 by decide), eqokI, eqokI (l := []), ?_⟩⟩
          cases e0 : al with
          | nil =>
            rw [e0] at hd
            have hs : spotA t m p.1 to = none := by
              cases z : spotA t m p.1 to with
              | none => rfl
              | some x => rw [z] at hd; cases hd
            have ev : visA t m p to = (p.1 ++ [to], p.2 ++ [(p.1.length : Int)]) := by
              unfold visA
              rw [if_neg (by omega), hs]
            refine iteT (b := eqv (.lst (([] : List Int).map .int)) (.lst [])) (by rw [eqv_nilI]; rfl) ⟨one_le, by rw [lp]; exact Nat.lt_of_le_of_lt (Nat.le_trans hpl hn) (by decide), hK3 _ _ ⟨rfl, [(p.1.length : Int)], (p.1.length : Int), by rw [ev], (show 1 ≤ 30 by decide), rfl, ?_⟩⟩
            rw [ev, List.map_append]
            exact congrArg (fun n : Nat => ([some (.val (tabD t)), some (.val (.int m)), some (.own (.lst (p.1.map .int ++ [.int to]))), some (.own (.lst (f.map wordD))), some (.val (.int (f.length : Nat))), some (.own (.lst (p.2.map .int))), some (.val (.int to)), some (.val (.lst [.int ((n : Nat) : Int)])), none] : Ev)) lp
          | cons x al' =>
            rw [e0] at hd lsp
            obtain ⟨y, hs, ey⟩ : ∃ y, spotA t m p.1 to = some y ∧ x = (y : Nat) := by
              cases z : spotA t m p.1 to with
              | none => rw [z] at hd; cases hd
              | some y => rw [z] at hd; exact ⟨y, rfl, Option.some.inj hd⟩
            have ev : visA t m p to = (p.1, p.2 ++ [(y : Int)]) := by
              unfold visA
              rw [if_neg (by omega), hs]
            refine iteF (b := eqv (.lst ((x :: al').map .int)) (.lst [])) (by rw [eqv_nilI]; rfl) (hK3 _ _ ⟨rfl, x :: al', (y : Int), by rw [ev], by omega, by rw [ey]; rfl, ?_⟩)
            rw [ev]
        · have e0 : al = [] := by rw [eal]; exact spots_neg (by omega)
          have ev : visA t m p to = (p.1, p.2 ++ [-1]) := if_pos (by omega)
          subst e0
          refine ⟨trivial, iteF (decide_eq_false c0) (hK3 _ _ ⟨rfl, [], -1, by rw [ev], by decide, rfl, ?_⟩)⟩
          rw [ev]
      rintro env z ⟨rfl, z7, v', ev, l7, e7, rfl⟩
      refine ⟨one_le, z_le (by rw [List.length_map]; show z7.length + 1 ≤ 100000; omega), ixo (dIx_seq (x := .lst (z7.map D.int ++ [D.int (-1)])) rfl (atI_nat (i := 0) e7) ⟨by rw [List.length_map]; exact Nat.lt_of_le_of_lt hp2 (by decide), hK2 _ _ ⟨rfl, visA t m p to, some (.val (.int to)), some (.val (.lst (z7.map .int))), next.symm, ?_⟩⟩)⟩
      rw [show (visA t m p to).2 = p.2 ++ [v'] from congrArg Prod.snd ev, List.map_append]
      rfl
    · rintro env v ⟨rfl, p, y6, y7, ep, rfl⟩
      rw [List.length_map, List.take_length] at ep
      have lp2 : p.2.length ≤ 4 := by
        rw [ep, (fold_ok r [] (q, []) st.met hrg ⟨rfl, fun x hx => by cases hx⟩).2.2.1]
        rw [List.nil_append]
        exact lr
      obtain ⟨s1, _, l1, _⟩ := st.step g c
      refine ⟨by rw [List.length_map]; exact Nat.lt_of_lt_of_le c (Nat.le_trans hq (Nat.le_trans hn (by decide))), hK _ _ (k - 1) (by omega) ⟨rfl, (stepA t m (q, f)).1, (stepA t m (q, f)).2, some (.own (.lst (p.2.map .int))), y6, y7, s1, ?_, ?_, ?_⟩⟩
      · obtain ⟨k', rfl⟩ : ∃ k', k = k' + 1 := ⟨k - 1, by omega⟩
        rw [← hr]
        exact (if_pos c : lrun t m (k' + 1) (q, f) = lrun t m k' (stepA t m (q, f))).symm
      · rw [l1]
        show k - 1 + (f.length + 1) = _
        omega
      · rw [es, ← ep, List.map_append]
        have ll : (f ++ [p.2]).length = f.length + 1 := by rw [List.length_append]; rfl
        exact congrArg (fun n : Nat => ([some (.val (tabD t)), some (.val (.int m)), some (.own (.lst (p.1.map .int))), some (.own (.lst (f.map wordD ++ [wordD p.2]))), some (.val (.int ((n : Nat) : Int))), some (.own (.lst (p.2.map .int))), y6, y7, none] : Ev)) ll.symm
  · refine ⟨trivial, ?_⟩
    show if decide (((f.length : Nat) : Int) < (((q.map D.int).length : Nat) : Int)) = true then _ else _
    rw [if_neg (by rw [decide_eq_false (by omega)]; decide)]
    have e : lrun t m k (q, f) = (q, f) := lrun_stop c
    rw [hr] at e
    have e2 : leastA t m = f := congrArg Prod.snd e
    rw [e2] at h
    exact h
end
end PD
set_option Elab.async false
set_option linter.all false
set_option maxRecDepth 100000
set_option maxHeartbeats 4000000
set_option pp.maxSteps 3000
set_option pp.deepTerms false
set_option pp.deepTerms.threshold 18
namespace PD
open PySem PySem.Spec L2
section
variable {c : Cfg} {A : Ad} {base : Heap}
theorem ok_is_whole (T : TX c A) : FnOk c.P c.w c.K c.mg base (L2.CX c.P c.w) 1 A.f_is_whole A.d_is_whole ["thing"] (spOf c (hd sp_is_whole)) := by
  refine def_ok T.F_is_whole sc_is_whole (by intro ds μ Q E h; replace h := hd_of h; first | exact h.1 | (obtain ⟨rfl, _⟩ := h; rfl) | (obtain ⟨_, rfl, _⟩ := h; rfl) | (obtain ⟨_, _, rfl, _⟩ := h; rfl) | (obtain ⟨_, _, _, rfl, _⟩ := h; rfl) | (obtain ⟨_, _, _, _, rfl, _⟩ := h; rfl) | (obtain ⟨_, _, _, _, _, rfl, _⟩ := h; rfl) | (obtain ⟨_, _, _, _, _, _, rfl, _⟩ := h; rfl) | (obtain ⟨_, _, _, _, _, _, _, rfl, _⟩ := h; rfl) | (obtain ⟨_, _, _, _, _, _, _, _, rfl, _⟩ := h; rfl) | (obtain ⟨_, _, _, _, _, _, _, _, _, rfl, _⟩ := h; rfl) | (obtain ⟨_, _, _, _, _, _, _, _, _, _, rfl, _⟩ := h; rfl) | (obtain ⟨_, _, _, _, _, _, _, _, _, _, _, rfl, _⟩ := h; rfl) | (obtain ⟨_, _, _, _, _, _, _, _, _, _, _, _, rfl, _⟩ := h; rfl)) ⟨_, fun cdv A' outer s H E B F0 hr =>
      (pxs_one (px_ret (px_and (px_isiD rfl T.b_isinstance T.b_int boot_ty_int kit_int (px_v 0)) (px_one (px_not (px_isiD rfl T.b_isinstance T.b_bool boot_ty_bool kit_bool (px_v 0))))))), ?_⟩
  intro ds μ Q E hh
  obtain ⟨x, rfl, hk, h⟩ := hd_of hh
  cases x <;> first | exact h | cases hk
theorem ok_is_within (T : TX c A) : FnOk c.P c.w c.K c.mg base (L2.CX c.P c.w) 2 A.f_is_within A.d_is_within ["thing", "low", "high"] (spOf c (hd sp_is_within)) := by
  refine def_ok T.F_is_within sc_is_within (by intro ds μ Q E h; replace h := hd_of h; first | exact h.1 | (obtain ⟨rfl, _⟩ := h; rfl) | (obtain ⟨_, rfl, _⟩ := h; rfl) | (obtain ⟨_, _, rfl, _⟩ := h; rfl) | (obtain ⟨_, _, _, rfl, _⟩ := h; rfl) | (obtain ⟨_, _, _, _, rfl, _⟩ := h; rfl) | (obtain ⟨_, _, _, _, _, rfl, _⟩ := h; rfl) | (obtain ⟨_, _, _, _, _, _, rfl, _⟩ := h; rfl) | (obtain ⟨_, _, _, _, _, _, _, rfl, _⟩ := h; rfl) | (obtain ⟨_, _, _, _, _, _, _, _, rfl, _⟩ := h; rfl) | (obtain ⟨_, _, _, _, _, _, _, _, _, rfl, _⟩ := h; rfl) | (obtain ⟨_, _, _, _, _, _, _, _, _, _, rfl, _⟩ := h; rfl) | (obtain ⟨_, _, _, _, _, _, _, _, _, _, _, rfl, _⟩ := h; rfl) | (obtain ⟨_, _, _, _, _, _, _, _, _, _, _, _, rfl, _⟩ := h; rfl)) ⟨_, fun cdv A' outer s H E B F0 hr =>
      (pxs_one (px_ret (px_and (px_call (ok_is_whole T) (hr.mono (by first | decide | omega)) rfl T.m_is_whole T.k_is_whole (b_is_whole T) .nil (fun _ => .nil) (takes_of rfl rfl rfl rfl) (px_cons (px_v 0) px_nil)) (px_one (px_chain op_le op_le (px_v 1) (px_v 0) (px_v 2)))))), ?_⟩
  intro ds μ Q E hh
  obtain ⟨x, lo, hi, rfl, hk, h⟩ := hd_of hh
  refine go ⟨x, rfl, hk, ?_⟩
  cases x <;> first | exact h | (cases hk; done) | skip
  rename_i i
  have h : Q (.fz (.bl (decide (lo ≤ i) && decide (i ≤ hi)))) μ := h
  show if decide (lo ≤ i) = true then _ else _
  cases e : decide (lo ≤ i) <;> rw [e] at h
  · exact h
  · exact h
def sp_rows_right : SpD := fun ds μ Q _ => ∃ (t : List (List Int)) (m : Int), ds = [tabD t, .int m] ∧ GT t m ∧ Q (.fz (.bl true)) μ
theorem ok_rows_right (T : TX c A) : FnOk c.P c.w c.K c.mg base (L2.CX c.P c.w) 3 A.f_rows_right A.d_rows_right ["thing", "many"] (spOf c (hd sp_rows_right)) := by
  refine def_ok T.F_rows_right sc_rows_right (by intro ds μ Q E h; replace h := hd_of h; first | exact h.1 | (obtain ⟨rfl, _⟩ := h; rfl) | (obtain ⟨_, rfl, _⟩ := h; rfl) | (obtain ⟨_, _, rfl, _⟩ := h; rfl) | (obtain ⟨_, _, _, rfl, _⟩ := h; rfl) | (obtain ⟨_, _, _, _, rfl, _⟩ := h; rfl) | (obtain ⟨_, _, _, _, _, rfl, _⟩ := h; rfl) | (obtain ⟨_, _, _, _, _, _, rfl, _⟩ := h; rfl) | (obtain ⟨_, _, _, _, _, _, _, rfl, _⟩ := h; rfl) | (obtain ⟨_, _, _, _, _, _, _, _, rfl, _⟩ := h; rfl) | (obtain ⟨_, _, _, _, _, _, _, _, _, rfl, _⟩ := h; rfl) | (obtain ⟨_, _, _, _, _, _, _, _, _, _, rfl, _⟩ := h; rfl) | (obtain ⟨_, _, _, _, _, _, _, _, _, _, _, rfl, _⟩ := h; rfl) | (obtain ⟨_, _, _, _, _, _, _, _, _, _, _, _, rfl, _⟩ := h; rfl)) ⟨_, fun cdv A' outer s H E B F0 hr =>
      (pxs_cons (px_ifS (pxt_w (pxw_or (pxt_not (pxt_val (px_isiD rfl T.b_isinstance T.b_tuple boot_ty_tuple kit_tuple (px_v 0)))) (pxw_or1 (pxt_not (pxt_chain op_le op_le px_int (px_len rfl T.b_len (px_v 0)) (px_glob (v := .int (1000)) rfl T.m_MOST_ROWS ⟨_, rfl⟩ (fun _ => cd_MOST_ROWS _))))))) (pxs_one (px_ret px_bl)) pxs_nil)
      (pxs_cons (px_for (passes_of rfl) rfl (px_it rfl (px_v 0)) (px_gnm (i := 2) sc_rows_right.nd rfl (by first | exact .inl rfl | exact .inr rfl)) (pxs_cons (px_ifS (pxt_w (pxw_or (pxt_not (pxt_val (px_isiD rfl T.b_isinstance T.b_tuple boot_ty_tuple kit_tuple (px_v 2)))) (pxw_or1 (pxt_ne hr.units rfl (px_len rfl T.b_len (px_v 2)) (px_v 1))))) (pxs_one (px_ret px_bl)) pxs_nil)
      (pxs_one (px_ifS (pxt_not (pxt_val (px_all rfl rfl T.b_all (px_lc (own := [("to", 3)]) rfl sc_rows_right.nd (px_it rfl (px_v 2)) (blkOk_by (N := N_rows_right) (sc := defScope s_rows_right) (by decide +kernel)) (by decide) (fun _ _ _ _ _ _ => (px_gnm (i := 3) sc_rows_right.nd rfl (by first | exact .inl rfl | exact .inr rfl))) (fun _ _ _ _ _ => px_tsNil) (fun _ _ _ _ _ _ => (px_call (ok_is_within T) (hr.mono (by first | decide | omega)) rfl T.m_is_within T.k_is_within (b_is_within T) .nil (fun _ => .nil) L2.takes0 (px_cons (px_v 3) (px_cons (px_glob (v := .int (-1)) rfl T.m_NONE ⟨_, rfl⟩ (fun _ => cd_NONE _)) (px_cons (px_sub rfl (px_len rfl T.b_len (px_v 0)) px_int) px_nil))))))))) (pxs_one (px_ret px_bl)) pxs_nil))))
      (pxs_one (px_ret px_bl)))), ?_⟩
  intro ds μ Q E hh
  obtain ⟨t, m, rfl, g, h⟩ := hd_of hh
  have e1 : (((t.map rowD).length : Nat) : Int) = t.length := by rw [List.length_map]
  have g1 := g.n1
  have g2 := g.n2
  refine seq_cut (fun e u => u = μ ∧ e = [some (.val (tabD t)), some (.val (.int m)), none, none]) (fun K hK => ?_) ?_
  · refine iteT (decide_eq_true (show (1 : Int) ≤ ((t.map rowD).length : Nat) by omega)) ?_
    exact iteF (b := !decide ((((t.map rowD).length : Nat) : Int) ≤ 1000)) (by rw [decide_eq_true (by omega)]; rfl) (hK _ _ ⟨rfl, rfl⟩)
  rintro env u ⟨rfl, rfl⟩
  refine forL_inv (I := fun e v => v = u ∧ ∃ x2 : Option SV, e = [some (.val (tabD t)), some (.val (.int m)), x2, none]) _ _ _ ⟨rfl, _, rfl⟩ ?_ ?_
  · rintro d hd env v K ⟨rfl, x2, rfl⟩ hK
    obtain ⟨r, hr, rfl⟩ := List.mem_map.mp hd
    have lr := g.rl r hr
    have e2 : (((r.map D.int).length : Nat) : Int) = m := by rw [List.length_map]; exact lr
    have lz : r.length ≤ 4 := by have := g.hm; omega
    refine seq_cut (fun e w => w = v ∧ e = [some (.val (tabD t)), some (.val (.int m)), some (.val (rowD r)), none]) (fun K1 hK1 => ?_) ?_
    · exact iteF (b := !decide ((((r.map D.int).length : Nat) : Int) = m)) (by rw [decide_eq_true e2]; rfl) (hK1 _ _ ⟨rfl, rfl⟩)
    rintro env w ⟨rfl, rfl⟩
    refine (show noOwn _ [3] = true ∧ _ from ⟨rfl, lcl_map (fun s => .bl (within s (-1) (t.length - 1))) (r.map .int) [] (fun d hd P hp => ?_) (by rw [List.length_map]; exact z_le (by show 0 + r.length ≤ 100000; omega)) ?_⟩)
    · obtain ⟨x, hx, rfl⟩ := List.mem_map.mp hd
      refine ⟨trivial, go ⟨.int x, -1, t.length - 1, ?_, rfl, hp⟩⟩
      rw [← e1]
      rfl
    have e := blsOf_map (fun s => within s (-1) (t.length - 1)) (r.map D.int)
    show match blsOf ([] ++ (r.map D.int).map fun s => D.bl (within s (-1) (t.length - 1))) with
      | some bs => _
      | none => False
    rw [List.nil_append, e]
    have e3 : ((r.map D.int).map fun s => within s (-1) (t.length - 1)).all id = true := by
      rw [List.all_eq_true]
      intro b hb
      obtain ⟨s, hs, rfl⟩ := List.mem_map.mp hb
      obtain ⟨x, hx, rfl⟩ := List.mem_map.mp hs
      have := g.rg r hr x hx
      show (decide (-1 ≤ x) && decide (x ≤ (t.length : Int) - 1)) = true
      rw [decide_eq_true this.1, decide_eq_true (by omega)]
      rfl
    exact iteF (b := !((r.map D.int).map fun s => within s (-1) (t.length - 1)).all id) (by rw [e3]; rfl) (hK _ _ ⟨rfl, _, rfl⟩)
  · rintro env v ⟨rfl, x2, rfl⟩
    exact h
def sp_many_of : SpD := fun ds μ Q _ => ∃ (t : List (List Int)) (m : Int), ds = [tabD t] ∧ GT t m ∧ Q (.fz (.int m)) μ
theorem ok_many_of (T : TX c A) : FnOk c.P c.w c.K c.mg base (L2.CX c.P c.w) 4 A.f_many_of A.d_many_of ["table"] (spOf c (hd sp_many_of)) := by
  refine def_ok T.F_many_of sc_many_of (by intro ds μ Q E h; replace h := hd_of h; first | exact h.1 | (obtain ⟨rfl, _⟩ := h; rfl) | (obtain ⟨_, rfl, _⟩ := h; rfl) | (obtain ⟨_, _, rfl, _⟩ := h; rfl) | (obtain ⟨_, _, _, rfl, _⟩ := h; rfl) | (obtain ⟨_, _, _, _, rfl, _⟩ := h; rfl) | (obtain ⟨_, _, _, _, _, rfl, _⟩ := h; rfl) | (obtain ⟨_, _, _, _, _, _, rfl, _⟩ := h; rfl) | (obtain ⟨_, _, _, _, _, _, _, rfl, _⟩ := h; rfl) | (obtain ⟨_, _, _, _, _, _, _, _, rfl, _⟩ := h; rfl) | (obtain ⟨_, _, _, _, _, _, _, _, _, rfl, _⟩ := h; rfl) | (obtain ⟨_, _, _, _, _, _, _, _, _, _, rfl, _⟩ := h; rfl) | (obtain ⟨_, _, _, _, _, _, _, _, _, _, _, rfl, _⟩ := h; rfl) | (obtain ⟨_, _, _, _, _, _, _, _, _, _, _, _, rfl, _⟩ := h; rfl)) ⟨_, fun cdv A' outer s H E B F0 hr =>
      (pxs_cons (px_ifS (pxt_w (pxw_or (pxt_not (pxt_val (px_isiD rfl T.b_isinstance T.b_tuple boot_ty_tuple kit_tuple (px_v 0)))) (pxw_or (pxt_eq hr.units rfl (px_len rfl T.b_len (px_v 0)) px_int) (pxw_or1 (pxt_not (pxt_val (px_isiD rfl T.b_isinstance T.b_tuple boot_ty_tuple kit_tuple (px_atO rfl (px_v 0) px_int)))))))) (pxs_one (px_raise0 rfl rfl rfl (takes_of rfl rfl rfl rfl) T.o_BadTable T.i_BadTable T.t_BadTable T.n_BadTable (okx_BadTable T) (hr.mono (by first | decide | omega)) (bx_BadTable T) rfl T.m_BadTable)) pxs_nil)
      (pxs_cons (px_set (i := 1) sc_many_of.nd rfl (by first | exact .inl rfl | exact .inr rfl) (px_len rfl T.b_len (px_atO rfl (px_v 0) px_int)))
      (pxs_cons (px_ifS (pxt_w (pxw_or (pxt_not (pxt_chain op_le op_le (px_glob (v := .int (2)) rfl T.m_MANY ⟨_, rfl⟩ (fun _ => cd_MANY _)) (px_v 1) (px_glob (v := .int (4)) rfl T.m_MOST_MANY ⟨_, rfl⟩ (fun _ => cd_MOST_MANY _)))) (pxw_or1 (pxt_not (pxt_val (px_call (ok_rows_right T) (hr.mono (by first | decide | omega)) rfl T.m_rows_right T.k_rows_right (b_rows_right T) .nil (fun _ => .nil) (takes_of rfl rfl rfl rfl) (px_cons (px_v 0) (px_cons (px_v 1) px_nil)))))))) (pxs_one (px_raise0 rfl rfl rfl (takes_of rfl rfl rfl rfl) T.o_BadTable T.i_BadTable T.t_BadTable T.n_BadTable (okx_BadTable T) (hr.mono (by first | decide | omega)) (bx_BadTable T) rfl T.m_BadTable)) pxs_nil)
      (pxs_one (px_ret (px_v 1)))))), ?_⟩
  intro ds μ Q E hh
  obtain ⟨t, m, rfl, g, h⟩ := hd_of hh
  have e1 : (((t.map rowD).length : Nat) : Int) = t.length := by rw [List.length_map]
  have g1 := g.n1
  have hm := g.hm
  have e2 : ((((rowOf t 0).map D.int).length : Nat) : Int) = m := by rw [List.length_map]; exact row_lens g ⟨by decide, by omega⟩
  refine seq_cut (fun e u => u = μ ∧ e = [some (.val (tabD t)), none]) (fun K hK => ?_) ?_
  · refine iteF (decide_eq_false (show ¬ (((t.map rowD).length : Nat) : Int) = 0 by omega)) ?_
    refine ixo (dIx_tab (t := t) (i := 0) ⟨by decide, by omega⟩ ?_)
    exact hK _ _ ⟨rfl, rfl⟩
  rintro env u ⟨rfl, rfl⟩
  refine seq_cut (fun e v => v = u ∧ e = [some (.val (tabD t)), some (.val (.int m))]) (fun K hK => ?_) ?_
  · refine ixo (dIx_tab (t := t) (i := 0) ⟨by decide, by omega⟩ ?_)
    refine hK _ _ ⟨rfl, ?_⟩
    rw [← e2]
    rfl
  rintro env v ⟨rfl, rfl⟩
  refine seq_cut (fun e w => w = v ∧ e = [some (.val (tabD t)), some (.val (.int m))]) (fun K hK => ?_) ?_
  · refine iteT (decide_eq_true hm.1) ?_
    refine iteF (b := !decide (m ≤ 4)) (by rw [decide_eq_true hm.2]; rfl) ?_
    exact go ⟨t, m, rfl, g, hK _ _ ⟨rfl, rfl⟩⟩
  rintro env w ⟨rfl, rfl⟩
  exact h
def sp_grouped : SpD := fun ds μ Q _ => ∃ (t : List (List Int)) (m : Int), ds = [tabD t] ∧ GT t m ∧ ∀ gs : List Int, LabT t m gs → Q (.fz (.lst (gs.map .int))) μ
theorem ok_grouped (T : TX c A) : FnOk c.P c.w c.K c.mg base (L2.CX c.P c.w) 1 A.f_grouped A.d_grouped ["table"] (spOf c (hd sp_grouped)) := by
  refine def_ok T.F_grouped sc_grouped (by intro ds μ Q E h; replace h := hd_of h; first | exact h.1 | (obtain ⟨rfl, _⟩ := h; rfl) | (obtain ⟨_, rfl, _⟩ := h; rfl) | (obtain ⟨_, _, rfl, _⟩ := h; rfl) | (obtain ⟨_, _, _, rfl, _⟩ := h; rfl) | (obtain ⟨_, _, _, _, rfl, _⟩ := h; rfl) | (obtain ⟨_, _, _, _, _, rfl, _⟩ := h; rfl) | (obtain ⟨_, _, _, _, _, _, rfl, _⟩ := h; rfl) | (obtain ⟨_, _, _, _, _, _, _, rfl, _⟩ := h; rfl) | (obtain ⟨_, _, _, _, _, _, _, _, rfl, _⟩ := h; rfl) | (obtain ⟨_, _, _, _, _, _, _, _, _, rfl, _⟩ := h; rfl) | (obtain ⟨_, _, _, _, _, _, _, _, _, _, rfl, _⟩ := h; rfl) | (obtain ⟨_, _, _, _, _, _, _, _, _, _, _, rfl, _⟩ := h; rfl) | (obtain ⟨_, _, _, _, _, _, _, _, _, _, _, _, rfl, _⟩ := h; rfl)) ⟨_, fun cdv A' outer s H E B F0 hr =>
      (pxs_cons (px_set (i := 1) sc_grouped.nd rfl (by first | exact .inl rfl | exact .inr rfl) (px_mul rfl (px_lst (px_cons px_int px_nil)) (px_len rfl T.b_len (px_v 0))))
      (pxs_cons (px_set (i := 2) sc_grouped.nd rfl (by first | exact .inl rfl | exact .inr rfl) px_int)
      (pxs_cons (px_while (passes_of rfl) (pxt_lt rfl (px_v 2) (px_lenSet rfl rfl T.b_len T.b_set (px_v 1))) (pxs_cons (px_set (i := 2) sc_grouped.nd rfl (by first | exact .inl rfl | exact .inr rfl) (px_lenSet rfl rfl T.b_len T.b_set (px_v 1)))
      (pxs_cons (px_setLc (i := 3) (own := [("at", 6), ("row", 7)]) rfl sc_grouped.nd rfl rfl (sw_true rfl rfl rfl (by decide +kernel)) (px_enum rfl T.b_enumerate (px_v 0)) (blkOk_by (N := N_grouped) (sc := defScope s_grouped) (by decide +kernel)) (by decide) (fun _ _ _ _ _ _ => (px_gtp (n := 2) rfl rfl (px_gscons (px_gnm (i := 6) sc_grouped.nd rfl (by first | exact .inl rfl | exact .inr rfl)) (px_gscons (px_gnm (i := 7) sc_grouped.nd rfl (by first | exact .inl rfl | exact .inr rfl)) px_gsnil)))) (fun _ _ _ _ _ => px_tsNil) (fun _ _ _ _ _ _ => (px_add rfl (px_tup (px_cons (px_atO rfl (px_v 1) (px_v 6)) px_nil)) (px_tuple rfl T.b_tuple (px_lc (own := [("to", 8)]) rfl sc_grouped.nd (px_it rfl (px_v 7)) (blkOk_by (N := N_grouped) (sc := _) (by first | kernel_rfl | (dsimp only [L2.Cx.blk, cxOf, compEnvC, relabel, PyProof.Rows.envOfC, Env.kindOf]; kernel_rfl) | (dsimp only [L2.Cx.blk, cxOf, compEnvC, relabel, PyProof.Rows.envOfC, Env.kindOf]; rfl))) (by decide) (fun _ _ _ _ _ _ => (px_gnm (i := 8) sc_grouped.nd rfl (by first | exact .inl rfl | exact .inr rfl))) (fun _ _ _ _ _ => px_tsNil) (fun _ _ _ _ _ _ => (px_if (pxt_ne hr.units rfl (px_v 8) (px_glob (v := .int (-1)) rfl T.m_NONE ⟨_, rfl⟩ (fun _ => cd_NONE _))) (px_atO rfl (px_v 1) (px_v 8)) (px_glob (v := .int (-1)) rfl T.m_NONE ⟨_, rfl⟩ (fun _ => cd_NONE _)))))))))
      (pxs_cons (px_setO (i := 4) sc_grouped.nd rfl (by first | exact .inl rfl | exact .inr rfl) px_dnewT)
      (pxs_cons (px_for (passes_of rfl) rfl (px_it rfl (px_v 3)) (px_gnm (i := 5) sc_grouped.nd rfl (by first | exact .inl rfl | exact .inr rfl)) (pxs_one (px_setdD (i := 4) hr.u1 rfl (by first | exact Or.inl rfl | exact Or.inr (Or.inl rfl) | exact Or.inr (Or.inr rfl)) (px_v 5) (px_lenK T.b_len (px_v 4)))))
      (pxs_one (px_set (i := 1) sc_grouped.nd rfl (by first | exact .inl rfl | exact .inr rfl) (px_lc (own := [("key", 5)]) rfl sc_grouped.nd (px_it rfl (px_v 3)) (blkOk_by (N := N_grouped) (sc := defScope s_grouped) (by decide +kernel)) (by decide) (fun _ _ _ _ _ _ => (px_gnm (i := 5) sc_grouped.nd rfl (by first | exact .inl rfl | exact .inr rfl))) (fun _ _ _ _ _ => px_tsNil) (fun _ _ _ _ _ _ => (px_dget hr.u1 (px_v 4) (px_v 5)))))))))))
      (pxs_one (px_ret (px_v 1)))))), ?_⟩
  intro ds μ Q E hh
  obtain ⟨t, m, rfl, g, h⟩ := hd_of hh
  have hm := g.hm
  have n1 := g.n1
  have n2 := g.n2
  have lt : (t.map rowD).length = t.length := List.length_map ..
  refine seq_cut (fun e u => u = μ ∧ e = [some (.val (tabD t)), some (.val (.lst ((List.replicate t.length (0 : Int)).map .int))), none, none, none, none, none, none, none]) (fun K hK => ?_) ?_
  · refine ⟨one_le, (show -(2 ^ 63) ≤ (((t.map rowD).length : Nat) : Int) by omega), (show (((t.map rowD).length : Nat) : Int) < 2 ^ 63 by omega), z_le (by show 1 * (((t.map rowD).length : Nat) : Int).toNat ≤ 100000; omega), hK _ _ ⟨rfl, ?_⟩⟩
    have e : (List.replicate (((t.map rowD).length : Nat) : Int).toNat [D.int 0]).flatten = (List.replicate t.length (0 : Int)).map .int := by rw [rep_one, List.map_replicate, Int.toNat_natCast, lt]
    exact congrArg (fun l => ([some (.val (tabD t)), some (.val (.lst l)), none, none, none, none, none, none, none] : Ev)) e
  rintro env u ⟨rfl, rfl⟩
  refine wh_go (fun k e u' => u' = u ∧ ∃ (gs : List Int) (j size : Nat) (x3 x4 x5 : Option SV), Lab t m j gs ∧ ((j = 0 ∧ size = 0) ∨ ∃ j' g0, j = j' + 1 ∧ Lab t m j' g0 ∧ Dist g0 size) ∧ t.length + 1 ≤ k + size ∧ (x5 = none ∨ ∃ d, x5 = some (.val d)) ∧
    e = [some (.val (tabD t)), some (.val (.lst (gs.map .int))), some (.val (.int (size : Nat))), x3, x4, x5, none, none, none]) (t.length + 1) ⟨rfl, List.replicate t.length 0, 0, 0, _, _, _, lab_zero, .inl ⟨rfl, rfl⟩, Nat.le_refl _, .inl rfl, rfl⟩ ?_
  rintro k env u' K hK ⟨rfl, gs, j, size, x3, x4, x5, L, hsz, hk, h5, rfl⟩
  have ll := L.len
  refine ⟨gs, rfl, by omega, fun c hc => ⟨trivial, ?_⟩⟩
  have hcl := dist_le hc
  by_cases c0 : size < c
  · refine iteT (decide_eq_true (show ((size : Nat) : Int) < (c : Nat) by omega)) ?_
    refine seq_cut (fun e v => v = u' ∧ e = [some (.val (tabD t)), some (.val (.lst (gs.map .int))), some (.val (.int (c : Nat))), x3, x4, x5, none, none, none]) (fun K1 hK1 => ⟨gs, rfl, by omega, fun c' hc' => ?_⟩) ?_
    · obtain rfl := dist_one hc hc'
      exact hK1 _ _ ⟨rfl, rfl⟩
    rintro env u2 ⟨rfl, rfl⟩
    refine seq_cut (fun e v => v = u2 ∧ e = [some (.val (tabD t)), some (.val (.lst (gs.map .int))), some (.val (.int (c : Nat))), some (.val (.lst ((keysT gs t).map wordD))), x4, x5, none, none, none]) (fun K1 hK1 => ?_) ?_
    · refine (show noOwn _ [6, 7] = true ∧ _ from ⟨rfl, lcl_map (keyF gs) (enumD (t.map rowD)) [] (fun d hd P hP => ?_) (by rw [enumD_len, lt]; exact z_le (by show 0 + t.length ≤ 100000; omega)) ?_⟩)
      · obtain ⟨i, hi, rfl⟩ := enumT_mem hd
        have hr : 0 ≤ ((i : Nat) : Int) ∧ ((i : Nat) : Int) < t.length := by omega
        have lr := row_lens g hr
        have eP : keyF gs (.tup [.int (i : Nat), rowD (rowOf t (i : Int))]) = wordD (keyT gs (rowOf t (i : Int)) (gs.getD i 0)) := by
          show wordD (keyT gs (((rowOf t (i : Int)).map D.int).map unI) (gs.getD ((i : Nat) : Int).toNat 0)) = _
          rw [unI_ints, Int.toNat_natCast]
        rw [eP] at hP
        refine ⟨rfl, ixo (dIx_ints ⟨hr.1, by omega⟩ ⟨one_le, ?_⟩)⟩
        rw [Int.toNat_natCast]
        refine (show noOwn _ [8] = true ∧ _ from ⟨rfl, lcl_map (labF gs) ((rowOf t (i : Int)).map .int) [] (fun d hd A hA => ?_) (by rw [List.length_map]; exact z_le (by show 0 + (rowOf t (i : Int)).length ≤ 100000; omega)) ?_⟩)
        · obtain ⟨to, hto, rfl⟩ := List.mem_map.mp hd
          have rg := row_rg g hr to hto
          have eL : labF gs (.int to) = .int (if to = -1 then -1 else gs.getD to.toNat 0) := rfl
          rw [eL] at hA
          by_cases c1 : to = -1
          · rw [if_pos c1] at hA
            exact iteF (b := !decide (to = -1)) (by rw [decide_eq_true c1]; rfl) hA
          · rw [if_neg c1] at hA
            exact iteT (b := !decide (to = -1)) (by rw [decide_eq_false c1]; rfl) (ixo (dIx_ints ⟨by omega, by omega⟩ hA))
        · rw [List.nil_append, lab_D]
          exact ⟨z_le (by rw [List.length_map, List.length_map]; show 1 + (rowOf t (i : Int)).length ≤ 100000; omega), hP⟩
      · rw [List.nil_append, keys_D]
        exact hK1 _ _ ⟨rfl, rfl⟩
    rintro env v ⟨rfl, rfl⟩
    have lk := keysT_len (gs := gs) (t := t)
    refine forL_ix (fun i e w => w = v ∧ ∃ (dd : List (List Int)) (y5 : Option SV), (∀ a w, a < i → (keysT gs t)[a]? = some w → w ∈ dd) ∧ dd.length ≤ i ∧ (y5 = none ∨ ∃ d, y5 = some (.val d)) ∧
      e = [some (.val (tabD t)), some (.val (.lst (gs.map .int))), some (.val (.int (c : Nat))), some (.val (.lst ((keysT gs t).map wordD))), some (.own (.dct (dd.map kW) ((upto dd.length).map .int))), y5, none, none, none]) _ _ _ ⟨rfl, [], x5, (fun a w ha => by omega), Nat.le_refl _, h5, rfl⟩ ?_ ?_
    · rintro i d hd env z K2 ⟨rfl, dd, y5, hin, hle, hy, rfl⟩ hK2
      rw [List.getElem?_map] at hd
      obtain ⟨w, ew, rfl⟩ := Option.map_eq_some_iff.mp hd
      have hi : i < t.length := by
        have := (List.getElem?_eq_some_iff.mp ew).1
        omega
      have one : ∀ dd' : List (List Int), (∀ w, w ∈ dd → w ∈ dd') → w ∈ dd' → ∀ a v, a < i + 1 → (keysT gs t)[a]? = some v → v ∈ dd' := fun dd' sub hm a v' ha ev => by
        by_cases ca : a < i
        · exact sub _ (hin a v' ca ev)
        · obtain rfl : a = i := by omega
          rw [ew] at ev
          cases ev
          exact hm
      refine ⟨⟨_, rfl, trivial⟩, w.map .int, kW w, rfl, dKeys_ints w, by rw [List.length_map]; exact Nat.lt_of_lt_of_le (show dd.length < 1001 by omega) (z_le (by decide)), fun h1 => ?_, fun h1 => ?_⟩
      · exact hK2 _ _ ⟨rfl, dd, _, one dd (fun _ h => h) (kW_mem.mp h1), by omega, .inr ⟨_, rfl⟩, rfl⟩
      · refine hK2 _ _ ⟨rfl, dd ++ [w], _, one _ (fun _ h => List.mem_append_left _ h) (List.mem_append_right _ (List.mem_cons_self ..)), by rw [List.length_append]; show dd.length + 1 ≤ _; omega, .inr ⟨wordD w, rfl⟩, ?_⟩
        rw [← kW_snoc, ← upto_snoc]
        rfl
    · rintro env z ⟨rfl, dd, y5, hin, hle, hy, rfl⟩
      rw [List.length_map, lk] at hin
      have hall : ∀ w ∈ keysT gs t, w ∈ dd := fun w hw => by
        obtain ⟨a, ha⟩ := List.mem_iff_getElem?.mp hw
        have := (List.getElem?_eq_some_iff.mp ha).1
        exact hin a w (by omega) ha
      have fin : ∀ y : Option SV, y = y5 → K [some (.val (tabD t)), some (.val (.lst ((numG dd (keysT gs t)).map .int))), some (.val (.int (c : Nat))), some (.val (.lst ((keysT gs t).map wordD))), some (.own (.dct (dd.map kW) ((upto dd.length).map .int))), y, none, none, none] z := fun y ey =>
        hK _ _ (k - 1) (by omega) ⟨rfl, numG dd (keysT gs t), j + 1, c, _, _, _, num_lab g L hall, .inr ⟨j, gs, rfl, L, hc⟩, by omega, by rw [ey]; exact hy, rfl⟩
      have body : ∀ d ∈ (keysT gs t).map wordD, ∀ (P : D → Mu → Prop), P (numF dd d) z → dDGet (.dct (dd.map kW) ((upto dd.length).map .int)) d fun r => r.still fun y => P y z := fun d hd P hP => by
        obtain ⟨w, hw, rfl⟩ := List.mem_map.mp hd
        have e : numF dd (wordD w) = .int ((dd.idxOf w : Nat) : Int) := by
          show D.int ((dd.idxOf ((w.map D.int).map unI) : Nat) : Int) = _
          rw [unI_ints]
        rw [e] at hP
        exact ⟨w.map .int, kW w, _, rfl, dKeys_ints w, look_idx (hall w hw), hP⟩
      have hz : ([] : List D).length + ((keysT gs t).map wordD).length ≤ sizeLine := by rw [List.length_map, lk]; exact z_le (by show 0 + t.length ≤ 100000; omega)
      rcases hy with rfl | ⟨d5, rfl⟩
      · refine (show noOwn _ [5] = true ∧ _ from ⟨rfl, lcl_map (numF dd) ((keysT gs t).map wordD) [] (fun d hd P hP => body d hd P hP) hz ?_⟩)
        rw [List.nil_append, num_D]
        exact fin _ rfl
      · refine (show noOwn _ [5] = true ∧ _ from ⟨rfl, lcl_map (numF dd) ((keysT gs t).map wordD) [] (fun d hd P hP => body d hd P hP) hz ?_⟩)
        rw [List.nil_append, num_D]
        exact fin _ rfl
  · refine iteF (decide_eq_false (show ¬ ((size : Nat) : Int) < (c : Nat) by omega)) ?_
    rcases hsz with ⟨e1, e2⟩ | ⟨j', g0, e1, L0, d0⟩
    · have := dist_pos hc (by intro e; rw [e] at ll; have : ([] : List Int).length = 0 := rfl; omega)
      omega
    · subst e1
      exact h gs (lab_done g L0 L d0 hc (by omega))
end
end PD
set_option Elab.async false
set_option linter.all false
set_option maxRecDepth 100000
set_option maxHeartbeats 4000000
set_option pp.maxSteps 3000
set_option pp.deepTerms false
set_option pp.deepTerms.threshold 18
namespace PD
open PySem PySem.Spec L2
section
variable {c : Cfg} {A : Ad} {base : Heap}
def sp_least_rows : SpD := fun ds μ Q _ => ∃ (t : List (List Int)) (m : Int), ds = [tabD t] ∧ GT t m ∧ Q (.fz (tabD (leastA t m))) μ
theorem ok_least_rows (T : TX c A) : FnOk c.P c.w c.K c.mg base (L2.CX c.P c.w) 2 A.f_least_rows A.d_least_rows ["table"] (spOf c (hd sp_least_rows)) := by
  refine def_ok T.F_least_rows sc_least_rows (by intro ds μ Q E h; replace h := hd_of h; first | exact h.1 | (obtain ⟨rfl, _⟩ := h; rfl) | (obtain ⟨_, rfl, _⟩ := h; rfl) | (obtain ⟨_, _, rfl, _⟩ := h; rfl) | (obtain ⟨_, _, _, rfl, _⟩ := h; rfl) | (obtain ⟨_, _, _, _, rfl, _⟩ := h; rfl) | (obtain ⟨_, _, _, _, _, rfl, _⟩ := h; rfl) | (obtain ⟨_, _, _, _, _, _, rfl, _⟩ := h; rfl) | (obtain ⟨_, _, _, _, _, _, _, rfl, _⟩ := h; rfl) | (obtain ⟨_, _, _, _, _, _, _, _, rfl, _⟩ := h; rfl) | (obtain ⟨_, _, _, _, _, _, _, _, _, rfl, _⟩ := h; rfl) | (obtain ⟨_, _, _, _, _, _, _, _, _, _, rfl, _⟩ := h; rfl) | (obtain ⟨_, _, _, _, _, _, _, _, _, _, _, rfl, _⟩ := h; rfl) | (obtain ⟨_, _, _, _, _, _, _, _, _, _, _, _, rfl, _⟩ := h; rfl)) ⟨_, fun cdv A' outer s H E B F0 hr =>
      (pxs_cons (px_set (i := 1) sc_least_rows.nd rfl (by first | exact .inl rfl | exact .inr rfl) (px_call (ok_grouped T) (hr.mono (by first | decide | omega)) rfl T.m_grouped T.k_grouped (b_grouped T) .nil (fun _ => .nil) (takes_of rfl rfl rfl rfl) (px_cons (px_v 0) px_nil)))
      (pxs_cons (px_setO (i := 2) sc_least_rows.nd rfl (by first | exact .inl rfl | exact .inr rfl) px_dnewK)
      (pxs_cons (px_for (passes_of rfl) rfl (px_enum rfl T.b_enumerate (px_v 1)) (px_gtp (n := 2) rfl rfl (px_gscons (px_gnm (i := 3) sc_least_rows.nd rfl (by first | exact .inl rfl | exact .inr rfl)) (px_gscons (px_gnm (i := 4) sc_least_rows.nd rfl (by first | exact .inl rfl | exact .inr rfl)) px_gsnil))) (pxs_one (px_setdD (i := 2) hr.u1 rfl (by first | exact Or.inl rfl | exact Or.inr (Or.inl rfl) | exact Or.inr (Or.inr rfl)) (px_v 4) (px_v 3))))
      (pxs_cons (px_setO (i := 5) sc_least_rows.nd rfl (by first | exact .inl rfl | exact .inr rfl) (px_lst (px_cons (px_atO rfl (px_v 1) px_int) px_nil)))
      (pxs_cons (px_setO (i := 6) sc_least_rows.nd rfl (by first | exact .inl rfl | exact .inr rfl) (px_disp1 (px_atO rfl (px_v 1) px_int) px_int))
      (pxs_cons (px_setO (i := 7) sc_least_rows.nd rfl (by first | exact .inl rfl | exact .inr rfl) (px_lst px_nil))
      (pxs_cons (px_set (i := 3) sc_least_rows.nd rfl (by first | exact .inl rfl | exact .inr rfl) px_int)
      (pxs_cons (px_while (passes_of rfl) (pxt_lt rfl (px_v 3) (px_len rfl T.b_len (px_v 5))) (pxs_cons (px_setO (i := 8) sc_least_rows.nd rfl (by first | exact .inl rfl | exact .inr rfl) (px_lst px_nil))
      (pxs_cons (px_for (passes_of rfl) rfl (px_it rfl (px_atO rfl (px_v 0) (px_dget hr.u1 (px_v 2) (px_atO rfl (px_v 5) (px_v 3))))) (px_gnm (i := 9) sc_least_rows.nd rfl (by first | exact .inl rfl | exact .inr rfl)) (pxs_cons (px_ifS (pxt_w (pxw_and (pxt_ne hr.units rfl (px_v 9) (px_glob (v := .int (-1)) rfl T.m_NONE ⟨_, rfl⟩ (fun _ => cd_NONE _))) (pxw_and1 (pxt_notinK hr.u1 (px_atO rfl (px_v 1) (px_v 9)) (px_v 6))))) (pxs_cons (px_setD (i := 6) hr.u1 rfl (by first | exact Or.inl rfl | exact Or.inr (Or.inl rfl) | exact Or.inr (Or.inr rfl)) (px_len rfl T.b_len (px_v 5)) (px_atO rfl (px_v 1) (px_v 9)))
      (pxs_one (px_append (i := 5) rfl (by first | exact Or.inl rfl | exact Or.inr (Or.inl rfl) | exact Or.inr (Or.inr rfl)) (px_atO rfl (px_v 1) (px_v 9))))) pxs_nil)
      (pxs_one (px_append (i := 8) rfl (by first | exact Or.inl rfl | exact Or.inr (Or.inl rfl) | exact Or.inr (Or.inr rfl)) (px_if (pxt_ne hr.units rfl (px_v 9) (px_glob (v := .int (-1)) rfl T.m_NONE ⟨_, rfl⟩ (fun _ => cd_NONE _))) (px_dget hr.u1 (px_v 6) (px_atO rfl (px_v 1) (px_v 9))) (px_glob (v := .int (-1)) rfl T.m_NONE ⟨_, rfl⟩ (fun _ => cd_NONE _)))))))
      (pxs_cons (px_append (i := 7) rfl (by first | exact Or.inl rfl | exact Or.inr (Or.inl rfl) | exact Or.inr (Or.inr rfl)) (px_tuple rfl T.b_tuple (px_v 8)))
      (pxs_one (px_aug (i := 3) op_iaddV opD_iadd rfl sc_least_rows.nd rfl (by first | exact .inl rfl | exact .inr rfl) px_int))))))
      (pxs_one (px_ret (px_tuple rfl T.b_tuple (px_v 7)))))))))))), ?_⟩
  intro ds μ Q E hh
  obtain ⟨t, m, rfl, g, h⟩ := hd_of hh
  have hm := g.hm
  have n1 := g.n1
  have n2 := g.n2
  refine go ⟨t, m, rfl, g, fun gs L => ?_⟩
  have ll := L.len
  refine forL_ix (fun i e u => u = μ ∧ ∃ (hs : List (Int × Nat)) (x3 x4 : Option SV), Hds t gs hs i ∧
    e = [some (.val (tabD t)), some (.val (.lst (gs.map .int))), some (.own (hdsC hs)), x3, x4, none, none, none, none, none]) _ _ _ ⟨rfl, [], _, _, ⟨(fun p hp => by cases hp), (fun a ha => by omega), Nat.le_refl _⟩, rfl⟩ ?_ ?_
  · rintro i d hd env u K ⟨rfl, hs, x3, x4, H, rfl⟩ hK
    have hi : i < gs.length := by
      have := (List.getElem?_eq_some_iff.mp hd).1
      rw [enumD_len, List.length_map] at this
      exact this
    have ed := enumD_at (l := gs.map D.int) (i := i) (d := .int (gs.getD i 0)) (by rw [List.getElem?_map, get_getD (d := 0) hi]; rfl)
    rw [ed] at hd
    obtain rfl := Option.some.inj hd
    have nx : ∀ hs' : List (Int × Nat), (∀ p ∈ hs, p ∈ hs') → (∀ p ∈ hs', p.2 < t.length ∧ gs.getD p.2 0 = p.1) → gs.getD i 0 ∈ hs'.map (·.1) → hs'.length ≤ i + 1 → Hds t gs hs' (i + 1) := fun hs' sub ok hm' hl => ⟨ok, fun a ha => by
      by_cases c : a < i
      · obtain ⟨p, hp, e⟩ := List.mem_map.mp (H.all a c)
        exact List.mem_map.mpr ⟨p, sub p hp, e⟩
      · obtain rfl : a = i := by omega
        exact hm', hl⟩
    refine ⟨rfl, ⟨_, rfl, trivial⟩, .inl (gs.getD i 0), rfl, by rw [kI_len, List.length_map]; exact Nat.lt_of_lt_of_le (show hs.length < 1001 by have := H.le; omega) (z_le (by decide)), fun h1 => ?_, fun h1 => ?_⟩
    · exact hK _ _ ⟨rfl, hs, _, _, nx hs (fun _ h => h) H.ok (kI_mem.mp h1) (by have := H.le; omega), rfl⟩
    · refine hK _ _ ⟨rfl, hs ++ [(gs.getD i 0, i)], some (.val (.int (i : Nat))), some (.val (.int (gs.getD i 0))), nx _ (fun _ h => List.mem_append_left _ h) (fun p hp => ?_) ?_ (by rw [List.length_append]; have := H.le; show hs.length + 1 ≤ _; omega), ?_⟩
      · rcases List.mem_append.mp hp with hp | hp
        · exact H.ok p hp
        · rw [List.mem_singleton.mp hp]
          exact ⟨by omega, rfl⟩
      · rw [List.map_append]
        exact List.mem_append_right _ (List.mem_cons_self ..)
      · rw [← hds_snoc]
        rfl
  rintro env u ⟨rfl, hs, x3, x4, H, rfl⟩
  rw [enumD_len, List.length_map, ll] at H
  dsimp only
  have g0 : gs.getD ((0 : Int)).toNat 0 = gam gs 0 := rfl
  refine seq_cut (fun e v => v = u ∧ e = [some (.val (tabD t)), some (.val (.lst (gs.map .int))), some (.own (hdsC hs)), x3, x4, some (.own (.lst (([0] : List Int).map (gam gs) |>.map .int))), none, none, none, none]) (fun K hK => ?_) ?_
  · exact ixo (dIx_ints ⟨by decide, by omega⟩ ⟨one_le, hK _ _ ⟨rfl, rfl⟩⟩)
  rintro env v ⟨rfl, rfl⟩
  refine seq_cut (fun e w => w = v ∧ e = [some (.val (tabD t)), some (.val (.lst (gs.map .int))), some (.own (hdsC hs)), x3, x4, some (.own (.lst (([0] : List Int).map (gam gs) |>.map .int))), some (.own (numC (([0] : List Int).map (gam gs)))), none, none, none]) (fun K hK => ?_) ?_
  · exact fun p hp => ixo (dIx_ints ⟨by decide, by omega⟩ ⟨rfl, rfl, .inl (gam gs 0), rfl, hK _ _ ⟨rfl, rfl⟩⟩)
  rintro env w ⟨rfl, rfl⟩
  refine ⟨z_le (show 0 ≤ 100000 by decide), wh_go (fun k e u => u = w ∧ ∃ (q : List Int) (f : List (List Int)) (y4 y8 y9 : Option SV), StA t m (q, f) ∧ lrun t m k (q, f) = leastP t m ∧ k + f.length = t.length + 1 ∧
    e = [some (.val (tabD t)), some (.val (.lst (gs.map .int))), some (.own (hdsC hs)), some (.val (.int (f.length : Nat))), y4, some (.own (.lst ((q.map (gam gs)).map .int))), some (.own (numC (q.map (gam gs)))), some (.own (.lst (f.map wordD))), y8, y9]) (t.length + 1) ⟨rfl, [0], [], _, _, _, StA.start g, rfl, rfl, rfl⟩ ?_⟩
  rintro k env u2 K hK ⟨rfl, q, f, y4, y8, y9, st, hr, hk, rfl⟩
  have hq : q.length ≤ t.length := st.met.le
  have hf : f.length ≤ q.length := st.le
  have lq : ((q.map (gam gs)).map D.int).length = q.length := by rw [List.length_map, List.length_map]
  by_cases c : f.length < q.length
  · refine ⟨trivial, ?_⟩
    show if decide (((f.length : Nat) : Int) < ((((q.map (gam gs)).map D.int).length : Nat) : Int)) = true then _ else _
    rw [if_pos (decide_eq_true (by omega))]
    have hi := st.met.at c
    obtain ⟨q0, eq0⟩ : ∃ q0, q0 = q.getD f.length 0 := ⟨_, rfl⟩
    have hi : 0 ≤ q0 ∧ q0 < t.length := by rw [eq0]; exact hi
    obtain ⟨r, er⟩ : ∃ r, r = rowOf t q0 := ⟨_, rfl⟩
    have hrg : ∀ x ∈ r, -1 ≤ x ∧ x < t.length := by rw [er]; exact row_rg g hi
    have lr := row_lens g hi
    rw [← er] at lr
    have es : stepA t m (q, f) = ((r.foldl (visA t m) (q, [])).1, f ++ [(r.foldl (visA t m) (q, [])).2]) := by rw [er, eq0]; rfl
    have eo : (q.map (gam gs)).getD ((f.length : Nat) : Int).toNat 0 = gam gs q0 := by
      rw [Int.toNat_natCast, getD_map_at (d := 0) c, ← eq0]
    have hin : gam gs q0 ∈ hs.map (·.1) := H.all q0.toNat (by omega)
    obtain ⟨a, ha, la⟩ := hds_look hin
    obtain ⟨ha1, ha2⟩ := H.ok _ ha
    have haA : Ali t m (a : Nat) q0 := (gam_ali L ⟨by omega, by omega⟩ hi).mp (by show gs.getD ((a : Nat) : Int).toNat 0 = _; rw [Int.toNat_natCast]; exact ha2)
    have hia : 0 ≤ ((a : Nat) : Int) ∧ ((a : Nat) : Int) < t.length := by omega
    refine ⟨z_le (show 0 ≤ 100000 by decide), ixo (dIx_ints ⟨by omega, by rw [List.length_map]; omega⟩ ?_)⟩
    rw [eo]
    refine ⟨.inl (gam gs q0), _, rfl, la, ixo (dIx_tab hia ?_)⟩
    refine forL_ix (fun s e v => v = u2 ∧ ∃ (p : List Int × List Int) (y9 : Option SV), p = (r.take s).foldl (visA t m) (q, []) ∧
      e = [some (.val (tabD t)), some (.val (.lst (gs.map .int))), some (.own (hdsC hs)), some (.val (.int (f.length : Nat))), y4, some (.own (.lst ((p.1.map (gam gs)).map .int))), some (.own (numC (p.1.map (gam gs)))), some (.own (.lst (f.map wordD))), some (.own (.lst (p.2.map .int))), y9]) _ _ _ ⟨rfl, (q, []), _, rfl, rfl⟩ ?_ ?_
    · rintro s d hd env v K2 ⟨rfl, p, z9, ep, rfl⟩ hK2
      rw [List.getElem?_map] at hd
      obtain ⟨to', et', rfl⟩ := Option.map_eq_some_iff.mp hd
      have lra := row_lens g hia
      have hs' := (List.getElem?_eq_some_iff.mp et').1
      have hsm : 0 ≤ ((s : Nat) : Int) ∧ ((s : Nat) : Int) < m := by omega
      have e1 : to' = stp t (a : Nat) (s : Nat) := by
        have := row_at g hia hsm
        rw [Int.toNat_natCast] at this
        rw [get_getD (d := 0) hs'] at et'
        rw [← this]
        exact (Option.some.inj et').symm
      obtain ⟨to, et⟩ : ∃ to, r[s]? = some to := ⟨_, List.getElem?_eq_getElem (by omega)⟩
      have e2 : to = stp t q0 (s : Nat) := by
        have := row_at g hi hsm
        rw [Int.toNat_natCast, ← er] at this
        rw [get_getD (d := 0) (by omega)] at et
        rw [← this]
        exact (Option.some.inj et).symm
      have al : Ali t m to' to := by
        rw [e1, e2]
        exact haA.stp hsm
      have neg := al.neg
      have rg' := row_rg g hia to' (List.mem_of_getElem? et')
      have rg := hrg to (List.mem_of_getElem? et)
      have fo := fold_ok (r.take s) [] (q, []) st.met (fun x hx => hrg x (List.mem_of_mem_take hx)) ⟨rfl, fun x hx => by cases hx⟩
      rw [← ep] at fo
      have hmet : Met t m p.1 := fo.1
      have hp2 : p.2.length ≤ 4 := by
        rw [fo.2.2.1, List.nil_append, List.length_take]
        omega
      have hpl := hmet.le
      have next : (r.take (s + 1)).foldl (visA t m) (q, []) = visA t m p to := by
        rw [List.take_add_one, et, List.foldl_append, ← ep]
        rfl
      obtain ⟨lab, eLb⟩ : ∃ lab, lab = p.1.map (gam gs) := ⟨_, rfl⟩
      have llab : lab.length = p.1.length := by rw [eLb, List.length_map]
      have geq : 0 ≤ to' → gam gs to' = gam gs to := fun c => (gam_ali L ⟨c, rg'.2⟩ ⟨by omega, rg.2⟩).mpr al
      refine seq_cut (fun e w => w = v ∧ e = [some (.val (tabD t)), some (.val (.lst (gs.map .int))), some (.own (hdsC hs)), some (.val (.int (f.length : Nat))), y4, some (.own (.lst (((visA t m p to).1.map (gam gs)).map .int))), some (.own (numC ((visA t m p to).1.map (gam gs)))), some (.own (.lst (f.map wordD))), some (.own (.lst (p.2.map .int))), some (.val (.int to'))]) (fun K3 hK3 => ?_) ?_
      · by_cases c1 : to' = -1
        · have ev : visA t m p to = (p.1, p.2 ++ [-1]) := if_pos (by omega)
          rw [ev] at hK3
          exact iteF (b := !decide (to' = -1)) (by rw [decide_eq_true c1]; rfl) (hK3 _ _ ⟨rfl, rfl⟩)
        · have c0 : 0 ≤ to' := by omega
          refine iteT (b := !decide (to' = -1)) (by rw [decide_eq_false c1]; rfl) (ixo (dIx_ints ⟨c0, by omega⟩ ⟨.inl (gam gs to'), rfl, ?_⟩))
          have hin' := gam_in L hmet ⟨(show 0 ≤ to by omega), rg.2⟩
          rw [← geq c0, ← eLb] at hin'
          rw [← eLb]
          cases esp : spotA t m p.1 to with
          | some x =>
            have ev : visA t m p to = (p.1, p.2 ++ [(x : Int)]) := by
              unfold visA
              rw [if_neg (by omega), esp]
            have hm := hin'.mpr ⟨x, esp⟩
            rw [ev, ← eLb] at hK3
            exact iteF (b := not (hasK (kI lab) (.inl (gam gs to')))) (by rw [hasK_iff.mpr (kI_mem.mpr hm)]; rfl) (hK3 _ _ ⟨rfl, rfl⟩)
          | none =>
            have ev : visA t m p to = (p.1 ++ [to], p.2 ++ [(p.1.length : Int)]) := by
              unfold visA
              rw [if_neg (by omega), esp]
            have hn : gam gs to' ∉ lab := fun z => by
              obtain ⟨x, hx⟩ := hin'.mp z
              rw [esp] at hx
              cases hx
            have hk : hasK (kI lab) (.inl (gam gs to')) = false := by
              cases z : hasK (kI lab) (.inl (gam gs to')) with
              | false => rfl
              | true => exact absurd (kI_mem.mp (hasK_iff.mp z)) hn
            rw [ev] at hK3
            refine iteT (b := not (hasK (kI lab) (.inl (gam gs to')))) (by rw [hk]; rfl) (ixo (dIx_ints ⟨c0, by omega⟩ ⟨.inl (gam gs to'), rfl, by rw [kI_len]; exact Nat.lt_of_lt_of_le (show lab.length < 1001 by omega) (z_le (by decide)), ixo (dIx_ints ⟨c0, by omega⟩ ⟨by rw [List.length_map]; exact Nat.lt_of_lt_of_le (show lab.length < 1001 by omega) (z_le (by decide)), hK3 _ _ ⟨rfl, ?_⟩⟩)⟩))
            have e6 : Cont.dic (putKs (kI lab) (.inl (gam gs to'))) (putVs (kI lab) ((upto lab.length).map .int) (.inl (gam gs to')) (.int (((lab.map D.int).length : Nat) : Int))) = numC (lab ++ [gam gs to']) := by
              rw [List.length_map]
              exact numC_snoc hn
            have e5 : (p.1 ++ [to]).map (gam gs) = lab ++ [gam gs to'] := by
              rw [List.map_append, ← eLb, geq c0]
              rfl
            show _ = ([some (.val (tabD t)), some (.val (.lst (gs.map .int))), some (.own (hdsC hs)), some (.val (.int (f.length : Nat))), y4, some (.own (.lst (((p.1 ++ [to]).map (gam gs)).map .int))), some (.own (numC ((p.1 ++ [to]).map (gam gs)))), some (.own (.lst (f.map wordD))), some (.own (.lst (p.2.map .int))), some (.val (.int to'))] : Ev)
            rw [e5, ← e6, List.map_append]
            rfl
      rintro env w ⟨rfl, rfl⟩
      obtain ⟨h1, _, v', hv, v1, v2, v3, v4, _⟩ := vis_ok hmet rg
      have fin := hK2 [some (.val (tabD t)), some (.val (.lst (gs.map .int))), some (.own (hdsC hs)), some (.val (.int (f.length : Nat))), y4, some (.own (.lst (((visA t m p to).1.map (gam gs)).map .int))), some (.own (numC ((visA t m p to).1.map (gam gs)))), some (.own (.lst (f.map wordD))), some (.own (.lst ((p.2 ++ [v']).map .int))), some (.val (.int to'))] w ⟨rfl, visA t m p to, _, next.symm, by rw [hv]⟩
      rw [List.map_append] at fin
      have hz : (p.2.map D.int).length < sizeLine := by rw [List.length_map]; exact Nat.lt_of_le_of_lt hp2 (by decide)
      by_cases c1 : to' = -1
      · have ev : v' = -1 := by omega
        subst ev
        exact iteF (b := !decide (to' = -1)) (by rw [decide_eq_true c1]; rfl) ⟨hz, fin⟩
      · have c0 : 0 ≤ to' := by omega
        obtain ⟨m1, m2⟩ := gam_spot L h1 ⟨(show 0 ≤ to by omega), rg.2⟩ (x := v'.toNat) (by omega) (v4 (by omega))
        rw [← geq c0] at m1 m2
        refine iteT (b := !decide (to' = -1)) (by rw [decide_eq_false c1]; rfl) (ixo (dIx_ints ⟨c0, by omega⟩ ⟨.inl (gam gs to'), _, rfl, lookI_idx m1, hz, ?_⟩))
        rw [m2, show ((v'.toNat : Nat) : Int) = v' by omega]
        exact fin
    · rintro env v ⟨rfl, p, z9, ep, rfl⟩
      rw [List.length_map, show (rowOf t (a : Nat)).length = r.length by have := row_lens g hia; omega, List.take_length] at ep
      obtain ⟨s1, _, l1, _⟩ := st.step g c
      dsimp only
      refine ⟨by rw [List.length_map]; exact Nat.lt_of_lt_of_le (show f.length < 1001 by omega) (z_le (by decide)), ?_⟩
      refine hK _ _ (k - 1) (by omega) ⟨rfl, (stepA t m (q, f)).1, (stepA t m (q, f)).2, y4, some (.own (.lst (p.2.map .int))), z9, s1, ?_, ?_, ?_⟩
      · obtain ⟨k', rfl⟩ : ∃ k', k = k' + 1 := ⟨k - 1, by omega⟩
        rw [← hr]
        exact (if_pos c : lrun t m (k' + 1) (q, f) = lrun t m k' (stepA t m (q, f))).symm
      · rw [l1]
        show k - 1 + (f.length + 1) = _
        omega
      · rw [es, ← ep, List.map_append]
        have ll' : (f ++ [p.2]).length = f.length + 1 := by rw [List.length_append]; rfl
        exact congrArg (fun n : Nat => ([some (.val (tabD t)), some (.val (.lst (gs.map .int))), some (.own (hdsC hs)), some (.val (.int ((n : Nat) : Int))), y4, some (.own (.lst ((p.1.map (gam gs)).map .int))), some (.own (numC (p.1.map (gam gs)))), some (.own (.lst (f.map wordD ++ [wordD p.2]))), some (.own (.lst (p.2.map .int))), z9] : Ev)) ll'.symm
  · refine ⟨trivial, ?_⟩
    show if decide (((f.length : Nat) : Int) < ((((q.map (gam gs)).map D.int).length : Nat) : Int)) = true then _ else _
    rw [if_neg (by rw [decide_eq_false (by omega)]; decide)]
    have e : lrun t m k (q, f) = (q, f) := lrun_stop c
    rw [hr] at e
    have e2 : leastA t m = f := congrArg Prod.snd e
    rw [e2] at h
    exact h
def sp_least_table : SpD := fun ds μ Q _ => ∃ (t : List (List Int)) (m : Int), ds = [tabD t] ∧ GT t m ∧ Q (.fz (tabD (leastA t m))) μ
theorem ok_least_table (T : TX c A) : FnOk c.P c.w c.K c.mg base (L2.CX c.P c.w) 5 A.f_least_table A.d_least_table ["table"] (spOf c (hd sp_least_table)) := by
  refine def_ok T.F_least_table sc_least_table (by intro ds μ Q E h; replace h := hd_of h; first | exact h.1 | (obtain ⟨rfl, _⟩ := h; rfl) | (obtain ⟨_, rfl, _⟩ := h; rfl) | (obtain ⟨_, _, rfl, _⟩ := h; rfl) | (obtain ⟨_, _, _, rfl, _⟩ := h; rfl) | (obtain ⟨_, _, _, _, rfl, _⟩ := h; rfl) | (obtain ⟨_, _, _, _, _, rfl, _⟩ := h; rfl) | (obtain ⟨_, _, _, _, _, _, rfl, _⟩ := h; rfl) | (obtain ⟨_, _, _, _, _, _, _, rfl, _⟩ := h; rfl) | (obtain ⟨_, _, _, _, _, _, _, _, rfl, _⟩ := h; rfl) | (obtain ⟨_, _, _, _, _, _, _, _, _, rfl, _⟩ := h; rfl) | (obtain ⟨_, _, _, _, _, _, _, _, _, _, rfl, _⟩ := h; rfl) | (obtain ⟨_, _, _, _, _, _, _, _, _, _, _, rfl, _⟩ := h; rfl) | (obtain ⟨_, _, _, _, _, _, _, _, _, _, _, _, rfl, _⟩ := h; rfl)) ⟨_, fun cdv A' outer s H E B F0 hr =>
      (pxs_cons (px_expr (px_call (ok_many_of T) (hr.mono (by first | decide | omega)) rfl T.m_many_of T.k_many_of (b_many_of T) .nil (fun _ => .nil) (takes_of rfl rfl rfl rfl) (px_cons (px_v 0) px_nil)))
      (pxs_one (px_ret (px_call (ok_least_rows T) (hr.mono (by first | decide | omega)) rfl T.m_least_rows T.k_least_rows (b_least_rows T) .nil (fun _ => .nil) (takes_of rfl rfl rfl rfl) (px_cons (px_v 0) px_nil))))), ?_⟩
  intro ds μ Q E hh
  obtain ⟨t, m, rfl, g, h⟩ := hd_of hh
  exact go ⟨t, m, rfl, g, go ⟨t, m, rfl, g, h⟩⟩
def sp__law_words : SpD := fun ds μ Q _ => ∃ m n : Int, ds = [.int m, .int n] ∧ (0 ≤ m ∧ m ≤ 4) ∧ (0 ≤ n ∧ n ≤ 8) ∧ Q (.fz (.lst (wordsD m.toNat n.toNat))) μ
theorem ok__law_words (T : TX c A) : FnOk c.P c.w c.K c.mg base (L2.CX c.P c.w) 1 A.f__law_words A.d__law_words ["_law_base", "_law_length"] (spOf c (hd sp__law_words)) := by
  refine def_ok T.F__law_words sc__law_words (by intro ds μ Q E h; replace h := hd_of h; first | exact h.1 | (obtain ⟨rfl, _⟩ := h; rfl) | (obtain ⟨_, rfl, _⟩ := h; rfl) | (obtain ⟨_, _, rfl, _⟩ := h; rfl) | (obtain ⟨_, _, _, rfl, _⟩ := h; rfl) | (obtain ⟨_, _, _, _, rfl, _⟩ := h; rfl) | (obtain ⟨_, _, _, _, _, rfl, _⟩ := h; rfl) | (obtain ⟨_, _, _, _, _, _, rfl, _⟩ := h; rfl) | (obtain ⟨_, _, _, _, _, _, _, rfl, _⟩ := h; rfl) | (obtain ⟨_, _, _, _, _, _, _, _, rfl, _⟩ := h; rfl) | (obtain ⟨_, _, _, _, _, _, _, _, _, rfl, _⟩ := h; rfl) | (obtain ⟨_, _, _, _, _, _, _, _, _, _, rfl, _⟩ := h; rfl) | (obtain ⟨_, _, _, _, _, _, _, _, _, _, _, rfl, _⟩ := h; rfl) | (obtain ⟨_, _, _, _, _, _, _, _, _, _, _, _, rfl, _⟩ := h; rfl)) ⟨_, fun cdv A' outer s H E B F0 hr =>
      (pxs_cons (px_set (i := 2) sc__law_words.nd rfl (by first | exact .inl rfl | exact .inr rfl) (px_lst (px_cons (px_tup px_nil) px_nil)))
      (pxs_cons (px_for (passes_of rfl) rfl (px_rng1 T.b_range (px_v 1)) (px_gnm (i := 3) sc__law_words.nd rfl (by first | exact .inl rfl | exact .inr rfl)) (pxs_cons (px_setO (i := 4) sc__law_words.nd rfl (by first | exact .inl rfl | exact .inr rfl) (px_lst px_nil))
      (pxs_cons (px_for (passes_of rfl) rfl (px_it rfl (px_v 2)) (px_gnm (i := 5) sc__law_words.nd rfl (by first | exact .inl rfl | exact .inr rfl)) (pxs_one (px_extend (i := 4) rfl (by first | exact Or.inl rfl | exact Or.inr (Or.inl rfl) | exact Or.inr (Or.inr rfl)) (px_lc (own := [("_law_sign", 6)]) rfl sc__law_words.nd (px_rng1 T.b_range (px_v 0)) (blkOk_by (N := N__law_words) (sc := defScope s__law_words) (by decide +kernel)) (by decide) (fun _ _ _ _ _ _ => (px_gnm (i := 6) sc__law_words.nd rfl (by first | exact .inl rfl | exact .inr rfl))) (fun _ _ _ _ _ => px_tsNil) (fun _ _ _ _ _ _ => (px_add rfl (px_v 5) (px_tup (px_cons (px_v 6) px_nil))))))))
      (pxs_one (px_frz 4 (px_set (i := 2) sc__law_words.nd rfl (by first | exact .inl rfl | exact .inr rfl) (px_v 4)))))))
      (pxs_one (px_ret (px_v 2))))), ?_⟩
  intro ds μ Q E hh
  obtain ⟨m, n, rfl, hm, hn, h⟩ := hd_of hh
  have z : ∀ k : Nat, k ≤ 100000 → k ≤ sizeLine := fun k h => Nat.le_trans h (by decide)
  have big : ∀ k : Nat, k ≤ 8 → m.toNat ^ k ≤ 65536 := fun k hk => Nat.le_trans (Nat.pow_le_pow_left (show m.toNat ≤ 4 by omega) k) (Nat.le_trans (Nat.pow_le_pow_right (by decide) hk) (by decide))
  refine ⟨z 0 (by decide), z 1 (by decide), by omega, by omega, forL_ix (fun i e u => u = μ ∧ ∃ x3 x4 x5, e = [some (.val (.int m)), some (.val (.int n)), some (.val (.lst (wordsD m.toNat i))), x3, x4, x5, none]) _ _ _ ⟨rfl, _, _, _, rfl⟩ ?_ ?_⟩
  · rintro i d hd env u K ⟨rfl, x3, x4, x5, rfl⟩ hK
    obtain ⟨hi, rfl⟩ := rng_at hd
    refine ⟨z 0 (by decide), forL_ix (fun j e v => v = u ∧ ∃ x5, e = [some (.val (.int m)), some (.val (.int n)), some (.val (.lst (wordsD m.toNat i))), some (.val (.int (i : Nat))), some (.own (.lst ((((allW m.toNat i).take j).flatMap fun w => (List.range m.toNat).map fun s => w ++ [((s : Nat) : Int)]).map wordD))), x5, none]) _ _ _ ⟨rfl, _, rfl⟩ ?_ ?_⟩
    · rintro j d hd env v K2 ⟨rfl, y5, rfl⟩ hK2
      unfold wordsD at hd
      rw [List.getElem?_map] at hd
      obtain ⟨w, hw, rfl⟩ := Option.map_eq_some_iff.mp hd
      have hj : j < (allW m.toNat i).length := (List.getElem?_eq_some_iff.mp hw).1
      refine (show -(2 ^ 62) ≤ m ∧ m < 2 ^ 62 ∧ noOwn _ [6] = true ∧ _ from ⟨by omega, by omega, rfl, lcl_map (fun d => match d with | .int s => wordD (w ++ [s]) | d => d) _ [] (fun d hd P hP => ?_) ?_ ?_⟩)
      · obtain ⟨s, hs, rfl⟩ := List.mem_map.mp hd
        refine (show 1 ≤ sizeLine ∧ (w.map D.int).length + 1 ≤ sizeLine ∧ P (.tup (w.map D.int ++ [.int s])) v from ⟨z 1 (by decide), ?_, ?_⟩)
        · rw [List.length_map, (allW_mem (List.mem_of_getElem? hw)).1]
          exact z _ (by omega)
        · have hP : P (.tup ((w ++ [((s : Nat) : Int)]).map D.int)) v := hP
          rw [List.map_append] at hP
          exact hP
      · rw [List.length_map, List.length_range]
        exact z _ (by show 0 + m.toNat ≤ 100000; omega)
      · have e1 : (((allW m.toNat i).take (j + 1)).flatMap fun w => (List.range m.toNat).map fun s => w ++ [((s : Nat) : Int)]) = (((allW m.toNat i).take j).flatMap fun w => (List.range m.toNat).map fun s => w ++ [((s : Nat) : Int)]) ++ ((List.range m.toNat).map fun s => w ++ [((s : Nat) : Int)]) := by
          rw [List.take_add_one, hw, List.flatMap_append]
          simp
        have e2 : ((List.range m.toNat).map fun i => D.int ((i : Nat) : Int)).map (fun d => match d with | .int s => wordD (w ++ [s]) | d => d) = ((List.range m.toNat).map fun s => w ++ [((s : Nat) : Int)]).map wordD := by
          rw [List.map_map, List.map_map]
          rfl
        refine ⟨?_, ?_⟩
        · show ((((allW m.toNat i).take j).flatMap fun w => (List.range m.toNat).map fun s => w ++ [((s : Nat) : Int)]).map wordD).length + ((((List.range m.toNat).map fun i => D.int ((i : Nat) : Int)).map (fun d => match d with | .int s => wordD (w ++ [s]) | d => d))).length ≤ sizeLine
          rw [List.length_map, List.length_map, List.length_map, List.length_range, flat_len (k := m.toNat) _ (fun a _ => by rw [List.length_map, List.length_range]), List.length_take]
          have b1 := big (i + 1) (by omega)
          rw [Nat.pow_succ, ← allW_len m.toNat i] at b1
          have b2 : (min j (allW m.toNat i).length + 1) * m.toNat ≤ (allW m.toNat i).length * m.toNat := Nat.mul_le_mul_right _ (by omega)
          rw [Nat.add_mul] at b2
          exact z _ (by omega)
        · refine hK2 _ _ ⟨rfl, some (.val (wordD w)), ?_⟩
          show [some (SV.val (D.int m)), some (SV.val (D.int n)), some (SV.val (D.lst (wordsD m.toNat i))), some (SV.val (D.int (i : Nat))), some (SV.own (.lst ((((allW m.toNat i).take j).flatMap fun w => (List.range m.toNat).map fun s => w ++ [((s : Nat) : Int)]).map wordD ++ ((List.range m.toNat).map fun i => D.int ((i : Nat) : Int)).map (fun d => match d with | .int s => wordD (w ++ [s]) | d => d)))), some (SV.val (wordD w)), none] = _
          rw [e2, ← List.map_append, ← e1]
    · rintro env v ⟨rfl, y5, rfl⟩
      have e : (wordsD m.toNat i).length = (allW m.toNat i).length := List.length_map _
      rw [e, List.take_length]
      exact hK _ _ ⟨rfl, _, _, _, rfl⟩
  · rintro env u ⟨rfl, x3, x4, x5, rfl⟩
    rw [List.length_map, List.length_range]
    exact h
end
end PD
set_option Elab.async false
set_option linter.all false
set_option maxRecDepth 100000
set_option maxHeartbeats 4000000
set_option pp.maxSteps 3000
set_option pp.deepTerms false
set_option pp.deepTerms.threshold 18
namespace PD
open PySem PySem.Spec L2
section
variable {c : Cfg} {A : Ad} {base : Heap}
def sp__law_led : SpD := fun ds μ Q _ => ∃ (t : List (List Int)) (m i : Int) (x : D) (w : List Int), ds = [tabD t, .int i, x] ∧ x.seq = some (w.map .int) ∧ GT t m ∧ Signs m w ∧ (-1 ≤ i ∧ i < t.length) ∧ Q (.fz (.int (runT t i w))) μ
theorem ok__law_led (T : TX c A) : FnOk c.P c.w c.K c.mg base (L2.CX c.P c.w) 1 A.f__law_led A.d__law_led ["_law_table", "_law_here", "_law_word"] (spOf c (hd sp__law_led)) := by
  refine def_ok T.F__law_led sc__law_led (by intro ds μ Q E h; replace h := hd_of h; first | exact h.1 | (obtain ⟨rfl, _⟩ := h; rfl) | (obtain ⟨_, rfl, _⟩ := h; rfl) | (obtain ⟨_, _, rfl, _⟩ := h; rfl) | (obtain ⟨_, _, _, rfl, _⟩ := h; rfl) | (obtain ⟨_, _, _, _, rfl, _⟩ := h; rfl) | (obtain ⟨_, _, _, _, _, rfl, _⟩ := h; rfl) | (obtain ⟨_, _, _, _, _, _, rfl, _⟩ := h; rfl) | (obtain ⟨_, _, _, _, _, _, _, rfl, _⟩ := h; rfl) | (obtain ⟨_, _, _, _, _, _, _, _, rfl, _⟩ := h; rfl) | (obtain ⟨_, _, _, _, _, _, _, _, _, rfl, _⟩ := h; rfl) | (obtain ⟨_, _, _, _, _, _, _, _, _, _, rfl, _⟩ := h; rfl) | (obtain ⟨_, _, _, _, _, _, _, _, _, _, _, rfl, _⟩ := h; rfl) | (obtain ⟨_, _, _, _, _, _, _, _, _, _, _, _, rfl, _⟩ := h; rfl)) ⟨_, fun cdv A' outer s H E B F0 hr =>
      (pxs_cons (px_for (passes_of rfl) rfl (px_it rfl (px_v 2)) (px_gnm (i := 3) sc__law_led.nd rfl (by first | exact .inl rfl | exact .inr rfl)) (pxs_one (px_set (i := 1) sc__law_led.nd rfl (by first | exact .inl rfl | exact .inr rfl) (px_if (pxt_ge rfl (px_v 1) px_int) (px_atO rfl (px_atO rfl (px_v 0) (px_v 1)) (px_v 3)) (px_neg px_int)))))
      (pxs_one (px_ret (px_v 1)))), ?_⟩
  intro ds μ Q E hh
  obtain ⟨t, m, i, x, w, rfl, hx, g, hw, hi, h⟩ := hd_of hh
  have go_ : wForL (gNm 3) (wAsg 1 (wIf (wVal (wBin dGe (wVar 1) (wC (.int 0)))) (wBin dIxO (wBin dIxO (wVar 0) (wVar 1)) (wVar 3)) (wUn dNeg (wC (.int 1))))) { endsOf Q E with nx := wRet (wVar 1) (endsOf Q E) } (w.map .int) [some (.val (tabD t)), some (.val (.int i)), some (.val x), none] μ := by
    refine forL_ix (fun k e u => u = μ ∧ ∃ x3 : Option SV, e = [some (.val (tabD t)), some (.val (.int (runT t i (w.take k)))), some (.val x), x3]) _ _ _ ⟨rfl, _, rfl⟩ ?_ ?_
    · rintro k d hd env u K ⟨rfl, x3, rfl⟩ hK
      rw [List.getElem?_map] at hd
      obtain ⟨s, es, rfl⟩ := Option.map_eq_some_iff.mp hd
      have hs := hw s (List.mem_of_getElem? es)
      have r := runT_rg g (w := w.take k) hi fun q hq => hw q (List.mem_of_mem_take hq)
      have fin := hK [some (.val (tabD t)), some (.val (.int (runT t i (w.take (k + 1))))), some (.val x), some (.val (.int s))] u ⟨rfl, _, rfl⟩
      rw [runT_take es] at fin
      by_cases c : 0 ≤ runT t i (w.take k)
      · refine ⟨trivial, iteT (decide_eq_true c) (ixo (dIx_tab ⟨c, r.2⟩ (ixo (dIx_row ⟨hs.1, by have := row_lens g ⟨c, r.2⟩; omega⟩ ?_))))⟩
        rw [row_at g ⟨c, r.2⟩ hs]
        exact fin
      · refine ⟨trivial, iteF (decide_eq_false c) ?_⟩
        rw [stp_neg (by omega)] at fin
        exact fin
    · rintro env u ⟨rfl, x3, rfl⟩
      rw [List.length_map, List.take_length]
      exact h
  rcases seq_either hx with rfl | rfl
  · exact go_
  · exact go_
end
end PD
set_option Elab.async false
set_option linter.all false
set_option maxRecDepth 100000
set_option maxHeartbeats 4000000
set_option pp.maxSteps 3000
set_option pp.deepTerms false
set_option pp.deepTerms.threshold 18
namespace PD
open PySem PySem.Spec L2
section
variable {c : Cfg} {A : Ad} {base : Heap}
theorem ok_law (T : TX c A) : FnOk c.P c.w c.K c.mg base (L2.CX c.P c.w) 8 A.f_law A.d_law ["_law_script"] (spOf c (hd sp_law)) := by
  refine def_ok T.F_law sc_law (by intro ds μ Q E h; replace h := hd_of h; first | exact h.1 | (obtain ⟨rfl, _⟩ := h; rfl) | (obtain ⟨_, rfl, _⟩ := h; rfl) | (obtain ⟨_, _, rfl, _⟩ := h; rfl) | (obtain ⟨_, _, _, rfl, _⟩ := h; rfl) | (obtain ⟨_, _, _, _, rfl, _⟩ := h; rfl) | (obtain ⟨_, _, _, _, _, rfl, _⟩ := h; rfl) | (obtain ⟨_, _, _, _, _, _, rfl, _⟩ := h; rfl) | (obtain ⟨_, _, _, _, _, _, _, rfl, _⟩ := h; rfl) | (obtain ⟨_, _, _, _, _, _, _, _, rfl, _⟩ := h; rfl) | (obtain ⟨_, _, _, _, _, _, _, _, _, rfl, _⟩ := h; rfl) | (obtain ⟨_, _, _, _, _, _, _, _, _, _, rfl, _⟩ := h; rfl) | (obtain ⟨_, _, _, _, _, _, _, _, _, _, _, rfl, _⟩ := h; rfl) | (obtain ⟨_, _, _, _, _, _, _, _, _, _, _, _, rfl, _⟩ := h; rfl)) ⟨_, fun cdv A' outer s H E B F0 hr =>
      (pxs_cons (px_setJ (i := 1) sc_law.nd rfl (by first | exact .inl rfl | exact .inr rfl) (px_call (ok__law_jar T) (hr.mono (by first | decide | omega)) rfl T.m__law_jar T.k__law_jar (b__law_jar T) .nil (fun _ => .nil) (takes_of rfl rfl rfl rfl) (px_cons (px_v 0) px_nil)))
      (pxs_jar (i := 1) (pxs_cons (px_for (passes_of rfl) rfl (px_rng1 T.b_range px_int) (px_gnm (i := 2) sc_law.nd rfl (by first | exact .inl rfl | exact .inr rfl)) (pxs_cons (px_set (i := 3) sc_law.nd rfl (by first | exact .inl rfl | exact .inr rfl) (px_add rfl px_int (px_call (ok__law_draw T) (hr.mono (by first | decide | omega)) rfl T.m__law_draw T.k__law_draw (b__law_draw T) .nil (fun _ => .nil) (takes_of rfl rfl rfl rfl) (px_cons (px_v 1) (px_cons px_int px_nil)))))
      (pxs_cons (px_set (i := 4) sc_law.nd rfl (by first | exact .inl rfl | exact .inr rfl) (px_call (ok__law_words_table T) (hr.mono (by first | decide | omega)) rfl T.m__law_words_table T.k__law_words_table (b__law_words_table T) .nil (fun _ => .nil) (takes_of rfl rfl rfl rfl) (px_cons (px_v 1) (px_cons (px_v 3) px_nil))))
      (pxs_cons (px_set (i := 5) sc_law.nd rfl (by first | exact .inl rfl | exact .inr rfl) (px_call (ok__law_least_table T) (hr.mono (by first | decide | omega)) rfl T.m__law_least_table T.k__law_least_table (b__law_least_table T) .nil (fun _ => .nil) (takes_of rfl rfl rfl rfl) (px_cons (px_v 4) (px_cons (px_v 3) px_nil))))
      (pxs_cons (px_set (i := 6) sc_law.nd rfl (by first | exact .inl rfl | exact .inr rfl) (px_call (ok_least_table T) (hr.mono (by first | decide | omega)) rfl T.m_least_table T.k_least_table (b_least_table T) .nil (fun _ => .nil) (takes_of rfl rfl rfl rfl) (px_cons (px_v 4) px_nil)))
      (pxs_cons (px_ifS (pxt_not (pxt_val (px_call (ok__law_same T) (hr.mono (by first | decide | omega)) rfl T.m__law_same T.k__law_same (b__law_same T) .nil (fun _ => .nil) (takes_of rfl rfl rfl rfl) (px_cons (px_lst (px_cons (px_v 6) (px_cons (px_call (ok_least_table T) (hr.mono (by first | decide | omega)) rfl T.m_least_table T.k_least_table (b_least_table T) .nil (fun _ => .nil) (takes_of rfl rfl rfl rfl) (px_cons (px_v 6) px_nil)) px_nil))) (px_cons (px_lst (px_cons (px_v 5) (px_cons (px_v 5) px_nil))) px_nil))))) (pxs_one (px_ret px_bl)) pxs_nil)
      (pxs_one (px_for (passes_of rfl) rfl (px_it rfl (px_call (ok__law_words T) (hr.mono (by first | decide | omega)) rfl T.m__law_words T.k__law_words (b__law_words T) .nil (fun _ => .nil) (takes_of rfl rfl rfl rfl) (px_cons (px_v 3) (px_cons (px_at rfl (px_lst (px_cons px_int (px_cons px_int (px_cons px_int px_nil)))) (px_sub rfl (px_v 3) px_int)) px_nil)))) (px_gnm (i := 7) sc_law.nd rfl (by first | exact .inl rfl | exact .inr rfl)) (pxs_one (px_ifS (pxt_ne hr.units rfl (px_ge rfl (px_call (ok__law_led T) (hr.mono (by first | decide | omega)) rfl T.m__law_led T.k__law_led (b__law_led T) .nil (fun _ => .nil) (takes_of rfl rfl rfl rfl) (px_cons (px_v 6) (px_cons px_int (px_cons (px_v 7) px_nil)))) px_int) (px_ge rfl (px_call (ok__law_led T) (hr.mono (by first | decide | omega)) rfl T.m__law_led T.k__law_led (b__law_led T) .nil (fun _ => .nil) (takes_of rfl rfl rfl rfl) (px_cons (px_v 4) (px_cons px_int (px_cons (px_v 7) px_nil)))) px_int)) (pxs_one (px_ret px_bl)) pxs_nil))))))))))
      (pxs_one (px_ret (px_call (ok__law_same T) (hr.mono (by first | decide | omega)) rfl T.m__law_same T.k__law_same (b__law_same T) .nil (fun _ => .nil) (takes_of rfl rfl rfl rfl) (px_cons (px_call (ok_least_table T) (hr.mono (by first | decide | omega)) rfl T.m_least_table T.k_least_table (b_least_table T) .nil (fun _ => .nil) (takes_of rfl rfl rfl rfl) (px_cons (px_tup (px_cons (px_tup (px_cons px_int (px_cons px_int px_nil))) (px_cons (px_tup (px_cons px_int (px_cons px_int px_nil))) px_nil))) px_nil)) (px_cons (px_tup (px_cons (px_tup (px_cons px_int (px_cons px_int px_nil))) px_nil)) px_nil)))))))), ?_⟩
  intro ds μ Q E hh
  obtain ⟨ns, rfl, hn, h⟩ := hd_of hh
  refine go ⟨ns, rfl, hn, fun ks sd hok a ha => ⟨⟨_, _, _, _, _, hok, muSet_same⟩, ?_⟩⟩
  have hj0 : muSet (muSet μ a (.box (jarL ks 0 0 sd 0))) a .jar a = some .jar := muSet_same
  generalize muSet (muSet μ a (.box (jarL ks 0 0 sd 0))) a .jar = μ0 at hj0 ⊢
  have dr : ∀ top : Int, 0 < top → top < 2 ^ 64 → 0 < top ∧ top.natAbs.log2 < 9000 := fun top h1 h2 => ⟨h1, log_small ⟨h1, h2⟩⟩
  refine ⟨by decide, by decide, forL_inv (I := fun env μ => μ = μ0 ∧ ∃ x2 x3 x4 x5 x6 x7, env = [some (.val (.scr ns)), some (.val (.hnd a)), x2, x3, x4, x5, x6, x7]) _ _ _ ⟨rfl, _, _, _, _, _, _, rfl⟩ ?_ ?_⟩
  · rintro d hd env μ1 K ⟨rfl, x2, x3, x4, x5, x6, x7, rfl⟩ hK
    refine go ⟨a, 3, rfl, hj0, dr 3 (by decide) (by decide), fun b hb => ?_⟩
    obtain ⟨m, em⟩ : ∃ m, m = 2 + b := ⟨_, rfl⟩
    have hm : 2 ≤ m ∧ m ≤ 4 := by omega
    refine go ⟨a, 2 + b, rfl, hj0, by omega, fun t g hl => ?_⟩
    rw [← em] at g ⊢
    refine go ⟨t, m, rfl, g, by omega, go ⟨t, m, rfl, g, ?_⟩⟩
    have g' := least_gt g
    simp only [R.d, R.still, List.set]
    refine seq_cut (fun e u => u = μ1 ∧ e = [some (.val (.scr ns)), some (.val (.hnd a)), some (.val d), some (.val (.int m)), some (.val (tabD t)), some (.val (tabD (leastA t m))), some (.val (tabD (leastA t m))), x7]) (fun K1 hK1 => ?_) ?_
    · refine go ⟨leastA t m, m, rfl, g', ⟨two_le, two_le, ?_⟩⟩
      rw [least_twice g]
      exact go (go_same (sm_tabs g' g') (sm_tabs g' g') dep_tabs rfl (hK1 _ _ ⟨rfl, rfl⟩))
    rintro env u ⟨rfl, rfl⟩
    have pick : ∀ {Z : R → Prop}, (∀ k : Int, 0 ≤ k ∧ k ≤ 8 → Z (.fz (.int k))) → dIx (.lst [.int 5, .int 3, .int 2]) (.int (m - 2)) Z := fun {Z} hz => dIx_lst (by show 0 ≤ m - 2 ∧ m - 2 < 3; omega) fun d hd => by
      simp only [List.mem_cons, List.not_mem_nil, or_false] at hd
      rcases hd with rfl | rfl | rfl
      · exact hz _ (by decide)
      · exact hz _ (by decide)
      · exact hz _ (by decide)
    refine ⟨three_le, trivial, pick fun k hk => go ⟨m, k, rfl, by omega, hk, ?_⟩⟩
    refine forL_inv (I := fun e v => v = u ∧ ∃ y7, e = [some (.val (.scr ns)), some (.val (.hnd a)), some (.val d), some (.val (.int m)), some (.val (tabD t)), some (.val (tabD (leastA t m))), some (.val (tabD (leastA t m))), y7]) _ _ _ ⟨rfl, _, rfl⟩ ?_ ?_
    · rintro d' hd' env v K2 ⟨rfl, y7, rfl⟩ hK2
      obtain ⟨w, hw, rfl⟩ := List.mem_map.mp hd'
      have sw : Signs m w := fun s hs => by
        have := (allW_mem hw).2 s hs
        omega
      have n1 := g.n1
      have n1' := g'.n1
      refine go ⟨leastA t m, m, 0, wordD w, w, rfl, rfl, g', sw, ⟨by decide, by omega⟩, ⟨trivial, go ⟨t, m, 0, wordD w, w, rfl, rfl, g, sw, ⟨by decide, by omega⟩, ⟨trivial, ?_⟩⟩⟩⟩
      have e := least_words g sw
      exact iteF (b := !decide (decide (runT (leastA t m) 0 w ≥ 0) = decide (runT t 0 w ≥ 0))) (by rw [decide_eq_true (by rw [decide_eq_decide]; omega)]; rfl) (hK2 _ _ ⟨rfl, _, rfl⟩)
    · rintro env v ⟨rfl, y7, rfl⟩
      exact hK _ _ ⟨rfl, _, _, _, _, _, _, rfl⟩
  · rintro env μ1 ⟨rfl, x2, x3, x4, x5, x6, x7, rfl⟩
    refine ⟨two_le, two_le, two_le, go ⟨tiny, 2, rfl, tiny_gt, ⟨two_le, one_le, ?_⟩⟩⟩
    rw [tiny_least]
    exact go (go_same (by decide) (by decide) (by decide) rfl (h _))
end
end PD
set_option Elab.async false
set_option linter.all false
set_option maxRecDepth 100000
set_option maxHeartbeats 4000000
set_option pp.maxSteps 3000
set_option pp.deepTerms false
set_option pp.deepTerms.threshold 18
namespace PD
open PySem PySem.Spec L2
theorem mk_TX {P : Program} {w : World} {K : PySem.W.Frag} {h : Heap} {mg : Str → Option Value} {fa : Addr} (X : K.In h) (G : h.Ns mainGlobals mg) (hfa : mg "law" = some (.ref fa))
    {f__law_jar : Addr} {oc__law_jar : Value} {dc__law_jar : Value} {pm__law_jar : Value} {ct__law_jar : Value} {od__law_jar : Option Addr} {an__law_jar : Option Addr} {sl__law_jar : Array (Option Value)} {cv__law_jar : Value} {kV__law_jar : Value} {f__law_same : Addr} {oc__law_same : Value} {dc__law_same : Value} {pm__law_same : Value} {ct__law_same : Value} {od__law_same : Option Addr} {an__law_same : Option Addr} {sl__law_same : Array (Option Value)} {cv__law_same : Value} {kV__law_same : Value} {f__law_draw : Addr} {oc__law_draw : Value} {dc__law_draw : Value} {pm__law_draw : Value} {ct__law_draw : Value} {od__law_draw : Option Addr} {an__law_draw : Option Addr} {sl__law_draw : Array (Option Value)} {cv__law_draw : Value} {kV__law_draw : Value} {f__law_words_table : Addr} {oc__law_words_table : Value} {dc__law_words_table : Value} {pm__law_words_table : Value} {ct__law_words_table : Value} {od__law_words_table : Option Addr} {an__law_words_table : Option Addr} {sl__law_words_table : Array (Option Value)} {cv__law_words_table : Value} {kV__law_words_table : Value} {f__law_rows_alike : Addr} {oc__law_rows_alike : Value} {dc__law_rows_alike : Value} {pm__law_rows_alike : Value} {ct__law_rows_alike : Value} {od__law_rows_alike : Option Addr} {an__law_rows_alike : Option Addr} {sl__law_rows_alike : Array (Option Value)} {cv__law_rows_alike : Value} {kV__law_rows_alike : Value} {f__law_least_table : Addr} {oc__law_least_table : Value} {dc__law_least_table : Value} {pm__law_least_table : Value} {ct__law_least_table : Value} {od__law_least_table : Option Addr} {an__law_least_table : Option Addr} {sl__law_least_table : Array (Option Value)} {cv__law_least_table : Value} {kV__law_least_table : Value} {f_is_whole : Addr} {oc_is_whole : Value} {dc_is_whole : Value} {pm_is_whole : Value} {ct_is_whole : Value} {od_is_whole : Option Addr} {an_is_whole : Option Addr} {sl_is_whole : Array (Option Value)} {cv_is_whole : Value} {kV_is_whole : Value} {f_is_within : Addr} {oc_is_within : Value} {dc_is_within : Value} {pm_is_within : Value} {ct_is_within : Value} {od_is_within : Option Addr} {an_is_within : Option Addr} {sl_is_within : Array (Option Value)} {cv_is_within : Value} {kV_is_within : Value} {f_rows_right : Addr} {oc_rows_right : Value} {dc_rows_right : Value} {pm_rows_right : Value} {ct_rows_right : Value} {od_rows_right : Option Addr} {an_rows_right : Option Addr} {sl_rows_right : Array (Option Value)} {cv_rows_right : Value} {kV_rows_right : Value} {f_many_of : Addr} {oc_many_of : Value} {dc_many_of : Value} {pm_many_of : Value} {ct_many_of : Value} {od_many_of : Option Addr} {an_many_of : Option Addr} {sl_many_of : Array (Option Value)} {cv_many_of : Value} {kV_many_of : Value} {f_grouped : Addr} {oc_grouped : Value} {dc_grouped : Value} {pm_grouped : Value} {ct_grouped : Value} {od_grouped : Option Addr} {an_grouped : Option Addr} {sl_grouped : Array (Option Value)} {cv_grouped : Value} {kV_grouped : Value} {f_least_rows : Addr} {oc_least_rows : Value} {dc_least_rows : Value} {pm_least_rows : Value} {ct_least_rows : Value} {od_least_rows : Option Addr} {an_least_rows : Option Addr} {sl_least_rows : Array (Option Value)} {cv_least_rows : Value} {kV_least_rows : Value} {f_least_table : Addr} {oc_least_table : Value} {dc_least_table : Value} {pm_least_table : Value} {ct_least_table : Value} {od_least_table : Option Addr} {an_least_table : Option Addr} {sl_least_table : Array (Option Value)} {cv_least_table : Value} {kV_least_table : Value} {f__law_words : Addr} {oc__law_words : Value} {dc__law_words : Value} {pm__law_words : Value} {ct__law_words : Value} {od__law_words : Option Addr} {an__law_words : Option Addr} {sl__law_words : Array (Option Value)} {cv__law_words : Value} {kV__law_words : Value} {f__law_led : Addr} {oc__law_led : Value} {dc__law_led : Value} {pm__law_led : Value} {ct__law_led : Value} {od__law_led : Option Addr} {an__law_led : Option Addr} {sl__law_led : Array (Option Value)} {cv__law_led : Value} {kV__law_led : Value} {f_law : Addr} {oc_law : Value} {dc_law : Value} {pm_law : Value} {ct_law : Value} {od_law : Option Addr} {an_law : Option Addr} {sl_law : Array (Option Value)} {cv_law : Value} {kV_law : Value} {t_MANY : Tok} {t_MOST_MANY : Tok} {t_MOST_ROWS : Tok} {t_NONE : Tok} {C_RowError : Addr} {oc_RowError : Value} {dc_RowError : Value} {pm_RowError : Value} {ct_RowError : Value} {cv_RowError : Value} {kV_RowError : Value} {od_RowError : Option Addr} {an_RowError : Option Addr} {sl_RowError : Array (Option Value)} {i_RowError : Addr} {C_BadTable : Addr} {oc_BadTable : Value} {dc_BadTable : Value} {pm_BadTable : Value} {ct_BadTable : Value} {cv_BadTable : Value} {kV_BadTable : Value} {od_BadTable : Option Addr} {an_BadTable : Option Addr} {sl_BadTable : Array (Option Value)} {i_BadTable : Addr} {nm_BadTable : Str} {q_BadTable : Str} {N_BadTable : Addr} {bs_BadTable : List Value} {sn_BadTable : List Str} {sub_BadTable : List Value} {ab_BadTable : Bool} {col_BadTable : Option Bool} {dd_BadTable : Option Addr} {m0_BadTable : Option Value} {m1_BadTable : Option Value} {m2_BadTable : Option Value} {m3_BadTable : Option Value} {m5_BadTable : Option Value}
    (a__law_jar : PySem.W.nsIn K mainGlobals "_law_jar" = some (some (.ref f__law_jar)))
    (l__law_jar : K.lookup f__law_jar = some ⟨oc__law_jar, od__law_jar, .func (PySem.W.fnOf "_law_jar" "_law_jar" (defArgs s__law_jar) (defBody s__law_jar) (defScope s__law_jar) .none kV__law_jar dc__law_jar pm__law_jar an__law_jar cv__law_jar ct__law_jar), sl__law_jar⟩)
    (c__law_jar : PySem.W.codeIn K cv__law_jar "_law_jar" = true)
    (k__law_jar : PySem.W.keepIn K (.ref f__law_jar) = true)
    (a__law_same : PySem.W.nsIn K mainGlobals "_law_same" = some (some (.ref f__law_same)))
    (l__law_same : K.lookup f__law_same = some ⟨oc__law_same, od__law_same, .func (PySem.W.fnOf "_law_same" "_law_same" (defArgs s__law_same) (defBody s__law_same) (defScope s__law_same) .none kV__law_same dc__law_same pm__law_same an__law_same cv__law_same ct__law_same), sl__law_same⟩)
    (c__law_same : PySem.W.codeIn K cv__law_same "_law_same" = true)
    (k__law_same : PySem.W.keepIn K (.ref f__law_same) = true)
    (a__law_draw : PySem.W.nsIn K mainGlobals "_law_draw" = some (some (.ref f__law_draw)))
    (l__law_draw : K.lookup f__law_draw = some ⟨oc__law_draw, od__law_draw, .func (PySem.W.fnOf "_law_draw" "_law_draw" (defArgs s__law_draw) (defBody s__law_draw) (defScope s__law_draw) .none kV__law_draw dc__law_draw pm__law_draw an__law_draw cv__law_draw ct__law_draw), sl__law_draw⟩)
    (c__law_draw : PySem.W.codeIn K cv__law_draw "_law_draw" = true)
    (k__law_draw : PySem.W.keepIn K (.ref f__law_draw) = true)
    (a__law_words_table : PySem.W.nsIn K mainGlobals "_law_words_table" = some (some (.ref f__law_words_table)))
    (l__law_words_table : K.lookup f__law_words_table = some ⟨oc__law_words_table, od__law_words_table, .func (PySem.W.fnOf "_law_words_table" "_law_words_table" (defArgs s__law_words_table) (defBody s__law_words_table) (defScope s__law_words_table) .none kV__law_words_table dc__law_words_table pm__law_words_table an__law_words_table cv__law_words_table ct__law_words_table), sl__law_words_table⟩)
    (c__law_words_table : PySem.W.codeIn K cv__law_words_table "_law_words_table" = true)
    (k__law_words_table : PySem.W.keepIn K (.ref f__law_words_table) = true)
    (a__law_rows_alike : PySem.W.nsIn K mainGlobals "_law_rows_alike" = some (some (.ref f__law_rows_alike)))
    (l__law_rows_alike : K.lookup f__law_rows_alike = some ⟨oc__law_rows_alike, od__law_rows_alike, .func (PySem.W.fnOf "_law_rows_alike" "_law_rows_alike" (defArgs s__law_rows_alike) (defBody s__law_rows_alike) (defScope s__law_rows_alike) .none kV__law_rows_alike dc__law_rows_alike pm__law_rows_alike an__law_rows_alike cv__law_rows_alike ct__law_rows_alike), sl__law_rows_alike⟩)
    (c__law_rows_alike : PySem.W.codeIn K cv__law_rows_alike "_law_rows_alike" = true)
    (k__law_rows_alike : PySem.W.keepIn K (.ref f__law_rows_alike) = true)
    (a__law_least_table : PySem.W.nsIn K mainGlobals "_law_least_table" = some (some (.ref f__law_least_table)))
    (l__law_least_table : K.lookup f__law_least_table = some ⟨oc__law_least_table, od__law_least_table, .func (PySem.W.fnOf "_law_least_table" "_law_least_table" (defArgs s__law_least_table) (defBody s__law_least_table) (defScope s__law_least_table) .none kV__law_least_table dc__law_least_table pm__law_least_table an__law_least_table cv__law_least_table ct__law_least_table), sl__law_least_table⟩)
    (c__law_least_table : PySem.W.codeIn K cv__law_least_table "_law_least_table" = true)
    (k__law_least_table : PySem.W.keepIn K (.ref f__law_least_table) = true)
    (a_is_whole : PySem.W.nsIn K mainGlobals "is_whole" = some (some (.ref f_is_whole)))
    (l_is_whole : K.lookup f_is_whole = some ⟨oc_is_whole, od_is_whole, .func (PySem.W.fnOf "is_whole" "is_whole" (defArgs s_is_whole) (defBody s_is_whole) (defScope s_is_whole) .none kV_is_whole dc_is_whole pm_is_whole an_is_whole cv_is_whole ct_is_whole), sl_is_whole⟩)
    (c_is_whole : PySem.W.codeIn K cv_is_whole "is_whole" = true)
    (k_is_whole : PySem.W.keepIn K (.ref f_is_whole) = true)
    (a_is_within : PySem.W.nsIn K mainGlobals "is_within" = some (some (.ref f_is_within)))
    (l_is_within : K.lookup f_is_within = some ⟨oc_is_within, od_is_within, .func (PySem.W.fnOf "is_within" "is_within" (defArgs s_is_within) (defBody s_is_within) (defScope s_is_within) .none kV_is_within dc_is_within pm_is_within an_is_within cv_is_within ct_is_within), sl_is_within⟩)
    (c_is_within : PySem.W.codeIn K cv_is_within "is_within" = true)
    (k_is_within : PySem.W.keepIn K (.ref f_is_within) = true)
    (a_rows_right : PySem.W.nsIn K mainGlobals "rows_right" = some (some (.ref f_rows_right)))
    (l_rows_right : K.lookup f_rows_right = some ⟨oc_rows_right, od_rows_right, .func (PySem.W.fnOf "rows_right" "rows_right" (defArgs s_rows_right) (defBody s_rows_right) (defScope s_rows_right) .none kV_rows_right dc_rows_right pm_rows_right an_rows_right cv_rows_right ct_rows_right), sl_rows_right⟩)
    (c_rows_right : PySem.W.codeIn K cv_rows_right "rows_right" = true)
    (k_rows_right : PySem.W.keepIn K (.ref f_rows_right) = true)
    (a_many_of : PySem.W.nsIn K mainGlobals "many_of" = some (some (.ref f_many_of)))
    (l_many_of : K.lookup f_many_of = some ⟨oc_many_of, od_many_of, .func (PySem.W.fnOf "many_of" "many_of" (defArgs s_many_of) (defBody s_many_of) (defScope s_many_of) .none kV_many_of dc_many_of pm_many_of an_many_of cv_many_of ct_many_of), sl_many_of⟩)
    (c_many_of : PySem.W.codeIn K cv_many_of "many_of" = true)
    (k_many_of : PySem.W.keepIn K (.ref f_many_of) = true)
    (a_grouped : PySem.W.nsIn K mainGlobals "grouped" = some (some (.ref f_grouped)))
    (l_grouped : K.lookup f_grouped = some ⟨oc_grouped, od_grouped, .func (PySem.W.fnOf "grouped" "grouped" (defArgs s_grouped) (defBody s_grouped) (defScope s_grouped) .none kV_grouped dc_grouped pm_grouped an_grouped cv_grouped ct_grouped), sl_grouped⟩)
    (c_grouped : PySem.W.codeIn K cv_grouped "grouped" = true)
    (k_grouped : PySem.W.keepIn K (.ref f_grouped) = true)
    (a_least_rows : PySem.W.nsIn K mainGlobals "least_rows" = some (some (.ref f_least_rows)))
    (l_least_rows : K.lookup f_least_rows = some ⟨oc_least_rows, od_least_rows, .func (PySem.W.fnOf "least_rows" "least_rows" (defArgs s_least_rows) (defBody s_least_rows) (defScope s_least_rows) .none kV_least_rows dc_least_rows pm_least_rows an_least_rows cv_least_rows ct_least_rows), sl_least_rows⟩)
    (c_least_rows : PySem.W.codeIn K cv_least_rows "least_rows" = true)
    (k_least_rows : PySem.W.keepIn K (.ref f_least_rows) = true)
    (a_least_table : PySem.W.nsIn K mainGlobals "least_table" = some (some (.ref f_least_table)))
    (l_least_table : K.lookup f_least_table = some ⟨oc_least_table, od_least_table, .func (PySem.W.fnOf "least_table" "least_table" (defArgs s_least_table) (defBody s_least_table) (defScope s_least_table) .none kV_least_table dc_least_table pm_least_table an_least_table cv_least_table ct_least_table), sl_least_table⟩)
    (c_least_table : PySem.W.codeIn K cv_least_table "least_table" = true)
    (k_least_table : PySem.W.keepIn K (.ref f_least_table) = true)
    (a__law_words : PySem.W.nsIn K mainGlobals "_law_words" = some (some (.ref f__law_words)))
    (l__law_words : K.lookup f__law_words = some ⟨oc__law_words, od__law_words, .func (PySem.W.fnOf "_law_words" "_law_words" (defArgs s__law_words) (defBody s__law_words) (defScope s__law_words) .none kV__law_words dc__law_words pm__law_words an__law_words cv__law_words ct__law_words), sl__law_words⟩)
    (c__law_words : PySem.W.codeIn K cv__law_words "_law_words" = true)
    (k__law_words : PySem.W.keepIn K (.ref f__law_words) = true)
    (a__law_led : PySem.W.nsIn K mainGlobals "_law_led" = some (some (.ref f__law_led)))
    (l__law_led : K.lookup f__law_led = some ⟨oc__law_led, od__law_led, .func (PySem.W.fnOf "_law_led" "_law_led" (defArgs s__law_led) (defBody s__law_led) (defScope s__law_led) .none kV__law_led dc__law_led pm__law_led an__law_led cv__law_led ct__law_led), sl__law_led⟩)
    (c__law_led : PySem.W.codeIn K cv__law_led "_law_led" = true)
    (k__law_led : PySem.W.keepIn K (.ref f__law_led) = true)
    (a_law : PySem.W.nsIn K mainGlobals "law" = some (some (.ref f_law)))
    (l_law : K.lookup f_law = some ⟨oc_law, od_law, .func (PySem.W.fnOf "law" "law" (defArgs s_law) (defBody s_law) (defScope s_law) .none kV_law dc_law pm_law an_law cv_law ct_law), sl_law⟩)
    (c_law : PySem.W.codeIn K cv_law "law" = true)
    (k_law : PySem.W.keepIn K (.ref f_law) = true)
    (z_ValueError : PySem.W.nsIn K mainGlobals "ValueError" = some none)
    (z_all : PySem.W.nsIn K mainGlobals "all" = some none)
    (z_bool : PySem.W.nsIn K mainGlobals "bool" = some none)
    (z_enumerate : PySem.W.nsIn K mainGlobals "enumerate" = some none)
    (z_int : PySem.W.nsIn K mainGlobals "int" = some none)
    (z_isinstance : PySem.W.nsIn K mainGlobals "isinstance" = some none)
    (z_len : PySem.W.nsIn K mainGlobals "len" = some none)
    (z_list : PySem.W.nsIn K mainGlobals "list" = some none)
    (z_range : PySem.W.nsIn K mainGlobals "range" = some none)
    (z_set : PySem.W.nsIn K mainGlobals "set" = some none)
    (z_str : PySem.W.nsIn K mainGlobals "str" = some none)
    (z_tuple : PySem.W.nsIn K mainGlobals "tuple" = some none)
    (g_MANY : PySem.W.nsIn K mainGlobals "MANY" = some (some (.int (2) t_MANY)))
    (g_MOST_MANY : PySem.W.nsIn K mainGlobals "MOST_MANY" = some (some (.int (4) t_MOST_MANY)))
    (g_MOST_ROWS : PySem.W.nsIn K mainGlobals "MOST_ROWS" = some (some (.int (1000) t_MOST_ROWS)))
    (g_NONE : PySem.W.nsIn K mainGlobals "NONE" = some (some (.int (-1) t_NONE)))
    (aC_RowError : PySem.W.nsIn K mainGlobals "RowError" = some (some (.ref C_RowError)))
    (i_RowError_ : PySem.W.findIn K (.ref C_RowError) "__init__" = some (some (.ref i_RowError)))
    (li_RowError : K.lookup i_RowError = some ⟨oc_RowError, od_RowError, .func (PySem.W.fnOf "__init__" "RowError.__init__" (defArgs s_RowError) (defBody s_RowError) (defScope s_RowError) .none kV_RowError dc_RowError pm_RowError an_RowError cv_RowError ct_RowError), sl_RowError⟩)
    (ci_RowError : PySem.W.codeIn K cv_RowError "RowError.__init__" = true)
    (ki_RowError : PySem.W.keepIn K (.ref i_RowError) = true)
    (rd_RowError : PySem.W.readsIn K C_RowError (.type "type") = true)
    (ga_RowError : PySem.W.specialIn K (.ref C_RowError) "__getattribute__" = some (some (.builtin "type.__getattribute__")))
    (e_RowError : PySem.W.findCls K (.ref C_RowError) (.type "type") "__init__" = some (.val (.ref i_RowError)))
    (v_VE : PySem.W.findCls K (.type "ValueError") (.type "type") "__init__" = some (.val (.builtin "ValueError.__init__")))
    (aC_BadTable : PySem.W.nsIn K mainGlobals "BadTable" = some (some (.ref C_BadTable)))
    (i_BadTable_ : PySem.W.findIn K (.ref C_BadTable) "__init__" = some (some (.ref i_BadTable)))
    (li_BadTable : K.lookup i_BadTable = some ⟨oc_BadTable, od_BadTable, .func (PySem.W.fnOf "__init__" "BadTable.__init__" (defArgs s_BadTable) (defBody s_BadTable) (defScope s_BadTable) .none kV_BadTable dc_BadTable pm_BadTable an_BadTable cv_BadTable ct_BadTable), sl_BadTable⟩)
    (ci_BadTable : PySem.W.codeIn K cv_BadTable "BadTable.__init__" = true)
    (ki_BadTable : PySem.W.keepIn K (.ref i_BadTable) = true)
    (xL_BadTable : K.lookup C_BadTable = some (excClassObj nm_BadTable q_BadTable C_BadTable N_BadTable bs_BadTable [.ref C_RowError, .type "ValueError", .type "Exception", .type "BaseException", .type "object"] true sn_BadTable sub_BadTable ab_BadTable col_BadTable dd_BadTable m0_BadTable m1_BadTable m2_BadTable m3_BadTable m5_BadTable "ValueError.__new__"))
    (sa_BadTable : PySem.W.findIn K (.ref C_BadTable) "__setattr__" = some (some (.builtin "object.__setattr__")))
    (eC_BadTable : PySem.W.subIn K (.ref C_BadTable) (.type "BaseException") = some true)
    (tC_BadTable : PySem.W.typeIn K (.ref C_BadTable) = some (.type "type"))
    (kC_BadTable : PySem.W.keepIn K (.ref C_BadTable) = true)
    (ft_BadTable : PySem.W.typeIn K (.ref i_BadTable) = some (.type "function"))
    (nC_BadTable : PySem.W.findIn K (.ref C_BadTable) "called" = some none)
    : ∃ A : Ad, TX ⟨P, w, K, mg, []⟩ A ∧ A.f_law = fa := by
  have ea := hfa.symm.trans (PySem.W.mg_of X G a_law)
  refine ⟨{
      f__law_jar := f__law_jar
      d__law_jar := PySem.W.fnOf "_law_jar" "_law_jar" (defArgs s__law_jar) (defBody s__law_jar) (defScope s__law_jar) .none kV__law_jar dc__law_jar pm__law_jar an__law_jar cv__law_jar ct__law_jar
      f__law_same := f__law_same
      d__law_same := PySem.W.fnOf "_law_same" "_law_same" (defArgs s__law_same) (defBody s__law_same) (defScope s__law_same) .none kV__law_same dc__law_same pm__law_same an__law_same cv__law_same ct__law_same
      f__law_draw := f__law_draw
      d__law_draw := PySem.W.fnOf "_law_draw" "_law_draw" (defArgs s__law_draw) (defBody s__law_draw) (defScope s__law_draw) .none kV__law_draw dc__law_draw pm__law_draw an__law_draw cv__law_draw ct__law_draw
      f__law_words_table := f__law_words_table
      d__law_words_table := PySem.W.fnOf "_law_words_table" "_law_words_table" (defArgs s__law_words_table) (defBody s__law_words_table) (defScope s__law_words_table) .none kV__law_words_table dc__law_words_table pm__law_words_table an__law_words_table cv__law_words_table ct__law_words_table
      f__law_rows_alike := f__law_rows_alike
      d__law_rows_alike := PySem.W.fnOf "_law_rows_alike" "_law_rows_alike" (defArgs s__law_rows_alike) (defBody s__law_rows_alike) (defScope s__law_rows_alike) .none kV__law_rows_alike dc__law_rows_alike pm__law_rows_alike an__law_rows_alike cv__law_rows_alike ct__law_rows_alike
      f__law_least_table := f__law_least_table
      d__law_least_table := PySem.W.fnOf "_law_least_table" "_law_least_table" (defArgs s__law_least_table) (defBody s__law_least_table) (defScope s__law_least_table) .none kV__law_least_table dc__law_least_table pm__law_least_table an__law_least_table cv__law_least_table ct__law_least_table
      f_is_whole := f_is_whole
      d_is_whole := PySem.W.fnOf "is_whole" "is_whole" (defArgs s_is_whole) (defBody s_is_whole) (defScope s_is_whole) .none kV_is_whole dc_is_whole pm_is_whole an_is_whole cv_is_whole ct_is_whole
      f_is_within := f_is_within
      d_is_within := PySem.W.fnOf "is_within" "is_within" (defArgs s_is_within) (defBody s_is_within) (defScope s_is_within) .none kV_is_within dc_is_within pm_is_within an_is_within cv_is_within ct_is_within
      f_rows_right := f_rows_right
      d_rows_right := PySem.W.fnOf "rows_right" "rows_right" (defArgs s_rows_right) (defBody s_rows_right) (defScope s_rows_right) .none kV_rows_right dc_rows_right pm_rows_right an_rows_right cv_rows_right ct_rows_right
      f_many_of := f_many_of
      d_many_of := PySem.W.fnOf "many_of" "many_of" (defArgs s_many_of) (defBody s_many_of) (defScope s_many_of) .none kV_many_of dc_many_of pm_many_of an_many_of cv_many_of ct_many_of
      f_grouped := f_grouped
      d_grouped := PySem.W.fnOf "grouped" "grouped" (defArgs s_grouped) (defBody s_grouped) (defScope s_grouped) .none kV_grouped dc_grouped pm_grouped an_grouped cv_grouped ct_grouped
      f_least_rows := f_least_rows
      d_least_rows := PySem.W.fnOf "least_rows" "least_rows" (defArgs s_least_rows) (defBody s_least_rows) (defScope s_least_rows) .none kV_least_rows dc_least_rows pm_least_rows an_least_rows cv_least_rows ct_least_rows
      f_least_table := f_least_table
      d_least_table := PySem.W.fnOf "least_table" "least_table" (defArgs s_least_table) (defBody s_least_table) (defScope s_least_table) .none kV_least_table dc_least_table pm_least_table an_least_table cv_least_table ct_least_table
      f__law_words := f__law_words
      d__law_words := PySem.W.fnOf "_law_words" "_law_words" (defArgs s__law_words) (defBody s__law_words) (defScope s__law_words) .none kV__law_words dc__law_words pm__law_words an__law_words cv__law_words ct__law_words
      f__law_led := f__law_led
      d__law_led := PySem.W.fnOf "_law_led" "_law_led" (defArgs s__law_led) (defBody s__law_led) (defScope s__law_led) .none kV__law_led dc__law_led pm__law_led an__law_led cv__law_led ct__law_led
      f_law := f_law
      d_law := PySem.W.fnOf "law" "law" (defArgs s_law) (defBody s_law) (defScope s_law) .none kV_law dc_law pm_law an_law cv_law ct_law
      C_RowError := C_RowError
      i_RowError := i_RowError
      di_RowError := PySem.W.fnOf "__init__" "RowError.__init__" (defArgs s_RowError) (defBody s_RowError) (defScope s_RowError) .none kV_RowError dc_RowError pm_RowError an_RowError cv_RowError ct_RowError
      C_BadTable := C_BadTable
      i_BadTable := i_BadTable
      di_BadTable := PySem.W.fnOf "__init__" "BadTable.__init__" (defArgs s_BadTable) (defBody s_BadTable) (defScope s_BadTable) .none kV_BadTable dc_BadTable pm_BadTable an_BadTable cv_BadTable ct_BadTable
      t_MANY := t_MANY
      t_MOST_MANY := t_MOST_MANY
      t_MOST_ROWS := t_MOST_ROWS
      t_NONE := t_NONE }, ?_, (Value.ref.inj (Option.some.inj ea)).symm⟩
  exact {
    m__law_jar := PySem.W.mg_of X G a__law_jar
    k__law_jar := k__law_jar
    F__law_jar := fun_mk (st := s__law_jar) l__law_jar c__law_jar k__law_jar
    m__law_same := PySem.W.mg_of X G a__law_same
    k__law_same := k__law_same
    F__law_same := fun_mk (st := s__law_same) l__law_same c__law_same k__law_same
    m__law_draw := PySem.W.mg_of X G a__law_draw
    k__law_draw := k__law_draw
    F__law_draw := fun_mk (st := s__law_draw) l__law_draw c__law_draw k__law_draw
    m__law_words_table := PySem.W.mg_of X G a__law_words_table
    k__law_words_table := k__law_words_table
    F__law_words_table := fun_mk (st := s__law_words_table) l__law_words_table c__law_words_table k__law_words_table
    m__law_rows_alike := PySem.W.mg_of X G a__law_rows_alike
    k__law_rows_alike := k__law_rows_alike
    F__law_rows_alike := fun_mk (st := s__law_rows_alike) l__law_rows_alike c__law_rows_alike k__law_rows_alike
    m__law_least_table := PySem.W.mg_of X G a__law_least_table
    k__law_least_table := k__law_least_table
    F__law_least_table := fun_mk (st := s__law_least_table) l__law_least_table c__law_least_table k__law_least_table
    m_is_whole := PySem.W.mg_of X G a_is_whole
    k_is_whole := k_is_whole
    F_is_whole := fun_mk (st := s_is_whole) l_is_whole c_is_whole k_is_whole
    m_is_within := PySem.W.mg_of X G a_is_within
    k_is_within := k_is_within
    F_is_within := fun_mk (st := s_is_within) l_is_within c_is_within k_is_within
    m_rows_right := PySem.W.mg_of X G a_rows_right
    k_rows_right := k_rows_right
    F_rows_right := fun_mk (st := s_rows_right) l_rows_right c_rows_right k_rows_right
    m_many_of := PySem.W.mg_of X G a_many_of
    k_many_of := k_many_of
    F_many_of := fun_mk (st := s_many_of) l_many_of c_many_of k_many_of
    m_grouped := PySem.W.mg_of X G a_grouped
    k_grouped := k_grouped
    F_grouped := fun_mk (st := s_grouped) l_grouped c_grouped k_grouped
    m_least_rows := PySem.W.mg_of X G a_least_rows
    k_least_rows := k_least_rows
    F_least_rows := fun_mk (st := s_least_rows) l_least_rows c_least_rows k_least_rows
    m_least_table := PySem.W.mg_of X G a_least_table
    k_least_table := k_least_table
    F_least_table := fun_mk (st := s_least_table) l_least_table c_least_table k_least_table
    m__law_words := PySem.W.mg_of X G a__law_words
    k__law_words := k__law_words
    F__law_words := fun_mk (st := s__law_words) l__law_words c__law_words k__law_words
    m__law_led := PySem.W.mg_of X G a__law_led
    k__law_led := k__law_led
    F__law_led := fun_mk (st := s__law_led) l__law_led c__law_led k__law_led
    m_law := PySem.W.mg_of X G a_law
    k_law := k_law
    F_law := fun_mk (st := s_law) l_law c_law k_law
    b_all := PySem.W.mg_none_of X G z_all
    b_bool := PySem.W.mg_none_of X G z_bool
    b_enumerate := PySem.W.mg_none_of X G z_enumerate
    b_int := PySem.W.mg_none_of X G z_int
    b_isinstance := PySem.W.mg_none_of X G z_isinstance
    b_len := PySem.W.mg_none_of X G z_len
    b_list := PySem.W.mg_none_of X G z_list
    b_range := PySem.W.mg_none_of X G z_range
    b_set := PySem.W.mg_none_of X G z_set
    b_str := PySem.W.mg_none_of X G z_str
    b_tuple := PySem.W.mg_none_of X G z_tuple
    m_MANY := PySem.W.mg_of X G g_MANY
    m_MOST_MANY := PySem.W.mg_of X G g_MOST_MANY
    m_MOST_ROWS := PySem.W.mg_of X G g_MOST_ROWS
    m_NONE := PySem.W.mg_of X G g_NONE
    m_RowError := PySem.W.mg_of X G aC_RowError
    F_RowError := fun_mk (st := s_RowError) li_RowError ci_RowError ki_RowError
    r_RowError := ⟨rd_RowError, ga_RowError⟩
    e_RowError := e_RowError
    ki_RowError := ki_RowError
    v_VE := v_VE
    b_ValueError := PySem.W.mg_none_of X G z_ValueError
    m_BadTable := PySem.W.mg_of X G aC_BadTable
    o_BadTable := ⟨⟨_, _, _, _, _, _, _, _, _, _, _, _, _, _, _, xL_BadTable, by first | rfl | decide +kernel⟩, sa_BadTable, eC_BadTable, tC_BadTable, kC_BadTable⟩
    i_BadTable := i_BadTable_
    t_BadTable := ft_BadTable
    n_BadTable := nC_BadTable
    F_BadTable := fun_mk (st := s_BadTable) li_BadTable ci_BadTable ki_BadTable
    }
theorem at_law {l : PySem.W.OpenLaw} {w : World} {K : PySem.W.Frag} {h : Heap} {mg : Str → Option Value} {fa : Addr} {A : Ad}
    (T : TX ⟨l.prog, w, K, mg, []⟩ A) (X : K.In h) (ef : A.f_law = fa) : LamX.LawAtS l w K (L2.CX l.prog w) 8 63 "_law_script" mg fa h := by
  subst ef
  refine ⟨A.d_law, [], spOf ⟨l.prog, w, K, mg, []⟩ (hd sp_law), ?_, ?_, ?_, fun s u => ?_, fun H a ns hl hz hT hS => law_sp (fun p hp => ?_) hS hl hz (fun ns Q E h1 h2 h3 => go (law_plain ns Q E h1 h2 h3)), fun base Kb nb TB => ?_⟩
  · intro p hp
    
    cases hp
  · intro p hp
    
    cases hp
  · intro p hp
    
    cases hp
  · obtain ⟨oc, od, kV, doc, pm, an, cdv, ct, osl, e, _, _⟩ := T.F_law.ex
    rw [e]
    exact .of_eq rfl
  · 
    cases hp
  · exact ok_law T
theorem law_end {l : PySem.W.OpenLaw} {w : World} {K : PySem.W.Frag} {h : Heap} {mg : Str → Option Value} {fa : Addr} (X : K.In h) (G : h.Ns mainGlobals mg) (hfa : mg "law" = some (.ref fa))
    {f__law_jar : Addr} {oc__law_jar : Value} {dc__law_jar : Value} {pm__law_jar : Value} {ct__law_jar : Value} {od__law_jar : Option Addr} {an__law_jar : Option Addr} {sl__law_jar : Array (Option Value)} {cv__law_jar : Value} {kV__law_jar : Value} {f__law_same : Addr} {oc__law_same : Value} {dc__law_same : Value} {pm__law_same : Value} {ct__law_same : Value} {od__law_same : Option Addr} {an__law_same : Option Addr} {sl__law_same : Array (Option Value)} {cv__law_same : Value} {kV__law_same : Value} {f__law_draw : Addr} {oc__law_draw : Value} {dc__law_draw : Value} {pm__law_draw : Value} {ct__law_draw : Value} {od__law_draw : Option Addr} {an__law_draw : Option Addr} {sl__law_draw : Array (Option Value)} {cv__law_draw : Value} {kV__law_draw : Value} {f__law_words_table : Addr} {oc__law_words_table : Value} {dc__law_words_table : Value} {pm__law_words_table : Value} {ct__law_words_table : Value} {od__law_words_table : Option Addr} {an__law_words_table : Option Addr} {sl__law_words_table : Array (Option Value)} {cv__law_words_table : Value} {kV__law_words_table : Value} {f__law_rows_alike : Addr} {oc__law_rows_alike : Value} {dc__law_rows_alike : Value} {pm__law_rows_alike : Value} {ct__law_rows_alike : Value} {od__law_rows_alike : Option Addr} {an__law_rows_alike : Option Addr} {sl__law_rows_alike : Array (Option Value)} {cv__law_rows_alike : Value} {kV__law_rows_alike : Value} {f__law_least_table : Addr} {oc__law_least_table : Value} {dc__law_least_table : Value} {pm__law_least_table : Value} {ct__law_least_table : Value} {od__law_least_table : Option Addr} {an__law_least_table : Option Addr} {sl__law_least_table : Array (Option Value)} {cv__law_least_table : Value} {kV__law_least_table : Value} {f_is_whole : Addr} {oc_is_whole : Value} {dc_is_whole : Value} {pm_is_whole : Value} {ct_is_whole : Value} {od_is_whole : Option Addr} {an_is_whole : Option Addr} {sl_is_whole : Array (Option Value)} {cv_is_whole : Value} {kV_is_whole : Value} {f_is_within : Addr} {oc_is_within : Value} {dc_is_within : Value} {pm_is_within : Value} {ct_is_within : Value} {od_is_within : Option Addr} {an_is_within : Option Addr} {sl_is_within : Array (Option Value)} {cv_is_within : Value} {kV_is_within : Value} {f_rows_right : Addr} {oc_rows_right : Value} {dc_rows_right : Value} {pm_rows_right : Value} {ct_rows_right : Value} {od_rows_right : Option Addr} {an_rows_right : Option Addr} {sl_rows_right : Array (Option Value)} {cv_rows_right : Value} {kV_rows_right : Value} {f_many_of : Addr} {oc_many_of : Value} {dc_many_of : Value} {pm_many_of : Value} {ct_many_of : Value} {od_many_of : Option Addr} {an_many_of : Option Addr} {sl_many_of : Array (Option Value)} {cv_many_of : Value} {kV_many_of : Value} {f_grouped : Addr} {oc_grouped : Value} {dc_grouped : Value} {pm_grouped : Value} {ct_grouped : Value} {od_grouped : Option Addr} {an_grouped : Option Addr} {sl_grouped : Array (Option Value)} {cv_grouped : Value} {kV_grouped : Value} {f_least_rows : Addr} {oc_least_rows : Value} {dc_least_rows : Value} {pm_least_rows : Value} {ct_least_rows : Value} {od_least_rows : Option Addr} {an_least_rows : Option Addr} {sl_least_rows : Array (Option Value)} {cv_least_rows : Value} {kV_least_rows : Value} {f_least_table : Addr} {oc_least_table : Value} {dc_least_table : Value} {pm_least_table : Value} {ct_least_table : Value} {od_least_table : Option Addr} {an_least_table : Option Addr} {sl_least_table : Array (Option Value)} {cv_least_table : Value} {kV_least_table : Value} {f__law_words : Addr} {oc__law_words : Value} {dc__law_words : Value} {pm__law_words : Value} {ct__law_words : Value} {od__law_words : Option Addr} {an__law_words : Option Addr} {sl__law_words : Array (Option Value)} {cv__law_words : Value} {kV__law_words : Value} {f__law_led : Addr} {oc__law_led : Value} {dc__law_led : Value} {pm__law_led : Value} {ct__law_led : Value} {od__law_led : Option Addr} {an__law_led : Option Addr} {sl__law_led : Array (Option Value)} {cv__law_led : Value} {kV__law_led : Value} {f_law : Addr} {oc_law : Value} {dc_law : Value} {pm_law : Value} {ct_law : Value} {od_law : Option Addr} {an_law : Option Addr} {sl_law : Array (Option Value)} {cv_law : Value} {kV_law : Value} {t_MANY : Tok} {t_MOST_MANY : Tok} {t_MOST_ROWS : Tok} {t_NONE : Tok} {C_RowError : Addr} {oc_RowError : Value} {dc_RowError : Value} {pm_RowError : Value} {ct_RowError : Value} {cv_RowError : Value} {kV_RowError : Value} {od_RowError : Option Addr} {an_RowError : Option Addr} {sl_RowError : Array (Option Value)} {i_RowError : Addr} {C_BadTable : Addr} {oc_BadTable : Value} {dc_BadTable : Value} {pm_BadTable : Value} {ct_BadTable : Value} {cv_BadTable : Value} {kV_BadTable : Value} {od_BadTable : Option Addr} {an_BadTable : Option Addr} {sl_BadTable : Array (Option Value)} {i_BadTable : Addr} {nm_BadTable : Str} {q_BadTable : Str} {N_BadTable : Addr} {bs_BadTable : List Value} {sn_BadTable : List Str} {sub_BadTable : List Value} {ab_BadTable : Bool} {col_BadTable : Option Bool} {dd_BadTable : Option Addr} {m0_BadTable : Option Value} {m1_BadTable : Option Value} {m2_BadTable : Option Value} {m3_BadTable : Option Value} {m5_BadTable : Option Value}
    (a__law_jar : PySem.W.nsIn K mainGlobals "_law_jar" = some (some (.ref f__law_jar)))
    (l__law_jar : K.lookup f__law_jar = some ⟨oc__law_jar, od__law_jar, .func (PySem.W.fnOf "_law_jar" "_law_jar" (defArgs s__law_jar) (defBody s__law_jar) (defScope s__law_jar) .none kV__law_jar dc__law_jar pm__law_jar an__law_jar cv__law_jar ct__law_jar), sl__law_jar⟩)
    (c__law_jar : PySem.W.codeIn K cv__law_jar "_law_jar" = true)
    (k__law_jar : PySem.W.keepIn K (.ref f__law_jar) = true)
    (a__law_same : PySem.W.nsIn K mainGlobals "_law_same" = some (some (.ref f__law_same)))
    (l__law_same : K.lookup f__law_same = some ⟨oc__law_same, od__law_same, .func (PySem.W.fnOf "_law_same" "_law_same" (defArgs s__law_same) (defBody s__law_same) (defScope s__law_same) .none kV__law_same dc__law_same pm__law_same an__law_same cv__law_same ct__law_same), sl__law_same⟩)
    (c__law_same : PySem.W.codeIn K cv__law_same "_law_same" = true)
    (k__law_same : PySem.W.keepIn K (.ref f__law_same) = true)
    (a__law_draw : PySem.W.nsIn K mainGlobals "_law_draw" = some (some (.ref f__law_draw)))
    (l__law_draw : K.lookup f__law_draw = some ⟨oc__law_draw, od__law_draw, .func (PySem.W.fnOf "_law_draw" "_law_draw" (defArgs s__law_draw) (defBody s__law_draw) (defScope s__law_draw) .none kV__law_draw dc__law_draw pm__law_draw an__law_draw cv__law_draw ct__law_draw), sl__law_draw⟩)
    (c__law_draw : PySem.W.codeIn K cv__law_draw "_law_draw" = true)
    (k__law_draw : PySem.W.keepIn K (.ref f__law_draw) = true)
    (a__law_words_table : PySem.W.nsIn K mainGlobals "_law_words_table" = some (some (.ref f__law_words_table)))
    (l__law_words_table : K.lookup f__law_words_table = some ⟨oc__law_words_table, od__law_words_table, .func (PySem.W.fnOf "_law_words_table" "_law_words_table" (defArgs s__law_words_table) (defBody s__law_words_table) (defScope s__law_words_table) .none kV__law_words_table dc__law_words_table pm__law_words_table an__law_words_table cv__law_words_table ct__law_words_table), sl__law_words_table⟩)
    (c__law_words_table : PySem.W.codeIn K cv__law_words_table "_law_words_table" = true)
    (k__law_words_table : PySem.W.keepIn K (.ref f__law_words_table) = true)
    (a__law_rows_alike : PySem.W.nsIn K mainGlobals "_law_rows_alike" = some (some (.ref f__law_rows_alike)))
    (l__law_rows_alike : K.lookup f__law_rows_alike = some ⟨oc__law_rows_alike, od__law_rows_alike, .func (PySem.W.fnOf "_law_rows_alike" "_law_rows_alike" (defArgs s__law_rows_alike) (defBody s__law_rows_alike) (defScope s__law_rows_alike) .none kV__law_rows_alike dc__law_rows_alike pm__law_rows_alike an__law_rows_alike cv__law_rows_alike ct__law_rows_alike), sl__law_rows_alike⟩)
    (c__law_rows_alike : PySem.W.codeIn K cv__law_rows_alike "_law_rows_alike" = true)
    (k__law_rows_alike : PySem.W.keepIn K (.ref f__law_rows_alike) = true)
    (a__law_least_table : PySem.W.nsIn K mainGlobals "_law_least_table" = some (some (.ref f__law_least_table)))
    (l__law_least_table : K.lookup f__law_least_table = some ⟨oc__law_least_table, od__law_least_table, .func (PySem.W.fnOf "_law_least_table" "_law_least_table" (defArgs s__law_least_table) (defBody s__law_least_table) (defScope s__law_least_table) .none kV__law_least_table dc__law_least_table pm__law_least_table an__law_least_table cv__law_least_table ct__law_least_table), sl__law_least_table⟩)
    (c__law_least_table : PySem.W.codeIn K cv__law_least_table "_law_least_table" = true)
    (k__law_least_table : PySem.W.keepIn K (.ref f__law_least_table) = true)
    (a_is_whole : PySem.W.nsIn K mainGlobals "is_whole" = some (some (.ref f_is_whole)))
    (l_is_whole : K.lookup f_is_whole = some ⟨oc_is_whole, od_is_whole, .func (PySem.W.fnOf "is_whole" "is_whole" (defArgs s_is_whole) (defBody s_is_whole) (defScope s_is_whole) .none kV_is_whole dc_is_whole pm_is_whole an_is_whole cv_is_whole ct_is_whole), sl_is_whole⟩)
    (c_is_whole : PySem.W.codeIn K cv_is_whole "is_whole" = true)
    (k_is_whole : PySem.W.keepIn K (.ref f_is_whole) = true)
    (a_is_within : PySem.W.nsIn K mainGlobals "is_within" = some (some (.ref f_is_within)))
    (l_is_within : K.lookup f_is_within = some ⟨oc_is_within, od_is_within, .func (PySem.W.fnOf "is_within" "is_within" (defArgs s_is_within) (defBody s_is_within) (defScope s_is_within) .none kV_is_within dc_is_within pm_is_within an_is_within cv_is_within ct_is_within), sl_is_within⟩)
    (c_is_within : PySem.W.codeIn K cv_is_within "is_within" = true)
    (k_is_within : PySem.W.keepIn K (.ref f_is_within) = true)
    (a_rows_right : PySem.W.nsIn K mainGlobals "rows_right" = some (some (.ref f_rows_right)))
    (l_rows_right : K.lookup f_rows_right = some ⟨oc_rows_right, od_rows_right, .func (PySem.W.fnOf "rows_right" "rows_right" (defArgs s_rows_right) (defBody s_rows_right) (defScope s_rows_right) .none kV_rows_right dc_rows_right pm_rows_right an_rows_right cv_rows_right ct_rows_right), sl_rows_right⟩)
    (c_rows_right : PySem.W.codeIn K cv_rows_right "rows_right" = true)
    (k_rows_right : PySem.W.keepIn K (.ref f_rows_right) = true)
    (a_many_of : PySem.W.nsIn K mainGlobals "many_of" = some (some (.ref f_many_of)))
    (l_many_of : K.lookup f_many_of = some ⟨oc_many_of, od_many_of, .func (PySem.W.fnOf "many_of" "many_of" (defArgs s_many_of) (defBody s_many_of) (defScope s_many_of) .none kV_many_of dc_many_of pm_many_of an_many_of cv_many_of ct_many_of), sl_many_of⟩)
    (c_many_of : PySem.W.codeIn K cv_many_of "many_of" = true)
    (k_many_of : PySem.W.keepIn K (.ref f_many_of) = true)
    (a_grouped : PySem.W.nsIn K mainGlobals "grouped" = some (some (.ref f_grouped)))
    (l_grouped : K.lookup f_grouped = some ⟨oc_grouped, od_grouped, .func (PySem.W.fnOf "grouped" "grouped" (defArgs s_grouped) (defBody s_grouped) (defScope s_grouped) .none kV_grouped dc_grouped pm_grouped an_grouped cv_grouped ct_grouped), sl_grouped⟩)
    (c_grouped : PySem.W.codeIn K cv_grouped "grouped" = true)
    (k_grouped : PySem.W.keepIn K (.ref f_grouped) = true)
    (a_least_rows : PySem.W.nsIn K mainGlobals "least_rows" = some (some (.ref f_least_rows)))
    (l_least_rows : K.lookup f_least_rows = some ⟨oc_least_rows, od_least_rows, .func (PySem.W.fnOf "least_rows" "least_rows" (defArgs s_least_rows) (defBody s_least_rows) (defScope s_least_rows) .none kV_least_rows dc_least_rows pm_least_rows an_least_rows cv_least_rows ct_least_rows), sl_least_rows⟩)
    (c_least_rows : PySem.W.codeIn K cv_least_rows "least_rows" = true)
    (k_least_rows : PySem.W.keepIn K (.ref f_least_rows) = true)
    (a_least_table : PySem.W.nsIn K mainGlobals "least_table" = some (some (.ref f_least_table)))
    (l_least_table : K.lookup f_least_table = some ⟨oc_least_table, od_least_table, .func (PySem.W.fnOf "least_table" "least_table" (defArgs s_least_table) (defBody s_least_table) (defScope s_least_table) .none kV_least_table dc_least_table pm_least_table an_least_table cv_least_table ct_least_table), sl_least_table⟩)
    (c_least_table : PySem.W.codeIn K cv_least_table "least_table" = true)
    (k_least_table : PySem.W.keepIn K (.ref f_least_table) = true)
    (a__law_words : PySem.W.nsIn K mainGlobals "_law_words" = some (some (.ref f__law_words)))
    (l__law_words : K.lookup f__law_words = some ⟨oc__law_words, od__law_words, .func (PySem.W.fnOf "_law_words" "_law_words" (defArgs s__law_words) (defBody s__law_words) (defScope s__law_words) .none kV__law_words dc__law_words pm__law_words an__law_words cv__law_words ct__law_words), sl__law_words⟩)
    (c__law_words : PySem.W.codeIn K cv__law_words "_law_words" = true)
    (k__law_words : PySem.W.keepIn K (.ref f__law_words) = true)
    (a__law_led : PySem.W.nsIn K mainGlobals "_law_led" = some (some (.ref f__law_led)))
    (l__law_led : K.lookup f__law_led = some ⟨oc__law_led, od__law_led, .func (PySem.W.fnOf "_law_led" "_law_led" (defArgs s__law_led) (defBody s__law_led) (defScope s__law_led) .none kV__law_led dc__law_led pm__law_led an__law_led cv__law_led ct__law_led), sl__law_led⟩)
    (c__law_led : PySem.W.codeIn K cv__law_led "_law_led" = true)
    (k__law_led : PySem.W.keepIn K (.ref f__law_led) = true)
    (a_law : PySem.W.nsIn K mainGlobals "law" = some (some (.ref f_law)))
    (l_law : K.lookup f_law = some ⟨oc_law, od_law, .func (PySem.W.fnOf "law" "law" (defArgs s_law) (defBody s_law) (defScope s_law) .none kV_law dc_law pm_law an_law cv_law ct_law), sl_law⟩)
    (c_law : PySem.W.codeIn K cv_law "law" = true)
    (k_law : PySem.W.keepIn K (.ref f_law) = true)
    (z_ValueError : PySem.W.nsIn K mainGlobals "ValueError" = some none)
    (z_all : PySem.W.nsIn K mainGlobals "all" = some none)
    (z_bool : PySem.W.nsIn K mainGlobals "bool" = some none)
    (z_enumerate : PySem.W.nsIn K mainGlobals "enumerate" = some none)
    (z_int : PySem.W.nsIn K mainGlobals "int" = some none)
    (z_isinstance : PySem.W.nsIn K mainGlobals "isinstance" = some none)
    (z_len : PySem.W.nsIn K mainGlobals "len" = some none)
    (z_list : PySem.W.nsIn K mainGlobals "list" = some none)
    (z_range : PySem.W.nsIn K mainGlobals "range" = some none)
    (z_set : PySem.W.nsIn K mainGlobals "set" = some none)
    (z_str : PySem.W.nsIn K mainGlobals "str" = some none)
    (z_tuple : PySem.W.nsIn K mainGlobals "tuple" = some none)
    (g_MANY : PySem.W.nsIn K mainGlobals "MANY" = some (some (.int (2) t_MANY)))
    (g_MOST_MANY : PySem.W.nsIn K mainGlobals "MOST_MANY" = some (some (.int (4) t_MOST_MANY)))
    (g_MOST_ROWS : PySem.W.nsIn K mainGlobals "MOST_ROWS" = some (some (.int (1000) t_MOST_ROWS)))
    (g_NONE : PySem.W.nsIn K mainGlobals "NONE" = some (some (.int (-1) t_NONE)))
    (aC_RowError : PySem.W.nsIn K mainGlobals "RowError" = some (some (.ref C_RowError)))
    (i_RowError_ : PySem.W.findIn K (.ref C_RowError) "__init__" = some (some (.ref i_RowError)))
    (li_RowError : K.lookup i_RowError = some ⟨oc_RowError, od_RowError, .func (PySem.W.fnOf "__init__" "RowError.__init__" (defArgs s_RowError) (defBody s_RowError) (defScope s_RowError) .none kV_RowError dc_RowError pm_RowError an_RowError cv_RowError ct_RowError), sl_RowError⟩)
    (ci_RowError : PySem.W.codeIn K cv_RowError "RowError.__init__" = true)
    (ki_RowError : PySem.W.keepIn K (.ref i_RowError) = true)
    (rd_RowError : PySem.W.readsIn K C_RowError (.type "type") = true)
    (ga_RowError : PySem.W.specialIn K (.ref C_RowError) "__getattribute__" = some (some (.builtin "type.__getattribute__")))
    (e_RowError : PySem.W.findCls K (.ref C_RowError) (.type "type") "__init__" = some (.val (.ref i_RowError)))
    (v_VE : PySem.W.findCls K (.type "ValueError") (.type "type") "__init__" = some (.val (.builtin "ValueError.__init__")))
    (aC_BadTable : PySem.W.nsIn K mainGlobals "BadTable" = some (some (.ref C_BadTable)))
    (i_BadTable_ : PySem.W.findIn K (.ref C_BadTable) "__init__" = some (some (.ref i_BadTable)))
    (li_BadTable : K.lookup i_BadTable = some ⟨oc_BadTable, od_BadTable, .func (PySem.W.fnOf "__init__" "BadTable.__init__" (defArgs s_BadTable) (defBody s_BadTable) (defScope s_BadTable) .none kV_BadTable dc_BadTable pm_BadTable an_BadTable cv_BadTable ct_BadTable), sl_BadTable⟩)
    (ci_BadTable : PySem.W.codeIn K cv_BadTable "BadTable.__init__" = true)
    (ki_BadTable : PySem.W.keepIn K (.ref i_BadTable) = true)
    (xL_BadTable : K.lookup C_BadTable = some (excClassObj nm_BadTable q_BadTable C_BadTable N_BadTable bs_BadTable [.ref C_RowError, .type "ValueError", .type "Exception", .type "BaseException", .type "object"] true sn_BadTable sub_BadTable ab_BadTable col_BadTable dd_BadTable m0_BadTable m1_BadTable m2_BadTable m3_BadTable m5_BadTable "ValueError.__new__"))
    (sa_BadTable : PySem.W.findIn K (.ref C_BadTable) "__setattr__" = some (some (.builtin "object.__setattr__")))
    (eC_BadTable : PySem.W.subIn K (.ref C_BadTable) (.type "BaseException") = some true)
    (tC_BadTable : PySem.W.typeIn K (.ref C_BadTable) = some (.type "type"))
    (kC_BadTable : PySem.W.keepIn K (.ref C_BadTable) = true)
    (ft_BadTable : PySem.W.typeIn K (.ref i_BadTable) = some (.type "function"))
    (nC_BadTable : PySem.W.findIn K (.ref C_BadTable) "called" = some none)
    : LamX.LawAtS l w K (L2.CX l.prog w) 8 63 "_law_script" mg fa h := by
  obtain ⟨A, T, ef⟩ := mk_TX (P := l.prog) (w := w) X G hfa a__law_jar l__law_jar c__law_jar k__law_jar a__law_same l__law_same c__law_same k__law_same a__law_draw l__law_draw c__law_draw k__law_draw a__law_words_table l__law_words_table c__law_words_table k__law_words_table a__law_rows_alike l__law_rows_alike c__law_rows_alike k__law_rows_alike a__law_least_table l__law_least_table c__law_least_table k__law_least_table a_is_whole l_is_whole c_is_whole k_is_whole a_is_within l_is_within c_is_within k_is_within a_rows_right l_rows_right c_rows_right k_rows_right a_many_of l_many_of c_many_of k_many_of a_grouped l_grouped c_grouped k_grouped a_least_rows l_least_rows c_least_rows k_least_rows a_least_table l_least_table c_least_table k_least_table a__law_words l__law_words c__law_words k__law_words a__law_led l__law_led c__law_led k__law_led a_law l_law c_law k_law z_ValueError z_all z_bool z_enumerate z_int z_isinstance z_len z_list z_range z_set z_str z_tuple g_MANY g_MOST_MANY g_MOST_ROWS g_NONE aC_RowError i_RowError_ li_RowError ci_RowError ki_RowError rd_RowError ga_RowError e_RowError v_VE aC_BadTable i_BadTable_ li_BadTable ci_BadTable ki_BadTable xL_BadTable sa_BadTable eC_BadTable tC_BadTable kC_BadTable ft_BadTable nC_BadTable
  exact at_law T X ef
end PD
set_option Elab.async false
set_option linter.all false
set_option maxRecDepth 100000
set_option maxHeartbeats 4000000
set_option pp.maxSteps 3000
set_option pp.deepTerms false
set_option pp.deepTerms.threshold 18
namespace PD
end PD
open PySem PySem.W PyProof.Rows
set_option maxRecDepth 100000 in
set_option maxHeartbeats 0 in
theorem PySem.Challenge.cw_elderow_k33_least_tables_of_words_holds : PySem.Challenge.rw_elderow_k33_least_tables_of_words.Holds := by
  w_on; o_law; k_head; (case hw => w_witness2)
  k_fill
  refine LamX.walk_ofTs (l := PySem.Challenge.rw_elderow_k33_least_tables_of_words) (n := 63) (k := 8) (x := "_law_script") (CX := fun w => L2.CX PySem.Challenge.rw_elderow_k33_least_tables_of_words.prog w) rfl (by decide) rfl ⟨rfl, by decide, by decide⟩ (fun w h Y => PySem.W.kIn_of Y) ?F (fun w => PD.cx_none)
  case F =>
    intro w mg fa h Y KX G hmg
    refine' PD.law_end KX G hmg ?a__law_jar ?l__law_jar ?c__law_jar ?k__law_jar ?a__law_same ?l__law_same ?c__law_same ?k__law_same ?a__law_draw ?l__law_draw ?c__law_draw ?k__law_draw ?a__law_words_table ?l__law_words_table ?c__law_words_table ?k__law_words_table ?a__law_rows_alike ?l__law_rows_alike ?c__law_rows_alike ?k__law_rows_alike ?a__law_least_table ?l__law_least_table ?c__law_least_table ?k__law_least_table ?a_is_whole ?l_is_whole ?c_is_whole ?k_is_whole ?a_is_within ?l_is_within ?c_is_within ?k_is_within ?a_rows_right ?l_rows_right ?c_rows_right ?k_rows_right ?a_many_of ?l_many_of ?c_many_of ?k_many_of ?a_grouped ?l_grouped ?c_grouped ?k_grouped ?a_least_rows ?l_least_rows ?c_least_rows ?k_least_rows ?a_least_table ?l_least_table ?c_least_table ?k_least_table ?a__law_words ?l__law_words ?c__law_words ?k__law_words ?a__law_led ?l__law_led ?c__law_led ?k__law_led ?a_law ?l_law ?c_law ?k_law ?z_ValueError ?z_all ?z_bool ?z_enumerate ?z_int ?z_isinstance ?z_len ?z_list ?z_range ?z_set ?z_str ?z_tuple ?g_MANY ?g_MOST_MANY ?g_MOST_ROWS ?g_NONE ?aC_RowError ?i_RowError_ ?li_RowError ?ci_RowError ?ki_RowError ?rd_RowError ?ga_RowError ?e_RowError ?v_VE ?aC_BadTable ?i_BadTable_ ?li_BadTable ?ci_BadTable ?ki_BadTable ?xL_BadTable ?sa_BadTable ?eC_BadTable ?tC_BadTable ?kC_BadTable ?ft_BadTable ?nC_BadTable
    (case a__law_jar => k_is)
    (case l__law_jar => k_is)
    (case c__law_jar => k_is)
    (case k__law_jar => k_is)
    (case a__law_same => k_is)
    (case l__law_same => k_is)
    (case c__law_same => k_is)
    (case k__law_same => k_is)
    (case a__law_draw => k_is)
    (case l__law_draw => k_is)
    (case c__law_draw => k_is)
    (case k__law_draw => k_is)
    (case a__law_words_table => k_is)
    (case l__law_words_table => k_is)
    (case c__law_words_table => k_is)
    (case k__law_words_table => k_is)
    (case a__law_rows_alike => k_is)
    (case l__law_rows_alike => k_is)
    (case c__law_rows_alike => k_is)
    (case k__law_rows_alike => k_is)
    (case a__law_least_table => k_is)
    (case l__law_least_table => k_is)
    (case c__law_least_table => k_is)
    (case k__law_least_table => k_is)
    (case a_is_whole => k_is)
    (case l_is_whole => k_is)
    (case c_is_whole => k_is)
    (case k_is_whole => k_is)
    (case a_is_within => k_is)
    (case l_is_within => k_is)
    (case c_is_within => k_is)
    (case k_is_within => k_is)
    (case a_rows_right => k_is)
    (case l_rows_right => k_is)
    (case c_rows_right => k_is)
    (case k_rows_right => k_is)
    (case a_many_of => k_is)
    (case l_many_of => k_is)
    (case c_many_of => k_is)
    (case k_many_of => k_is)
    (case a_grouped => k_is)
    (case l_grouped => k_is)
    (case c_grouped => k_is)
    (case k_grouped => k_is)
    (case a_least_rows => k_is)
    (case l_least_rows => k_is)
    (case c_least_rows => k_is)
    (case k_least_rows => k_is)
    (case a_least_table => k_is)
    (case l_least_table => k_is)
    (case c_least_table => k_is)
    (case k_least_table => k_is)
    (case a__law_words => k_is)
    (case l__law_words => k_is)
    (case c__law_words => k_is)
    (case k__law_words => k_is)
    (case a__law_led => k_is)
    (case l__law_led => k_is)
    (case c__law_led => k_is)
    (case k__law_led => k_is)
    (case a_law => k_is)
    (case l_law => k_is)
    (case c_law => k_is)
    (case k_law => k_is)
    (case z_ValueError => k_is)
    (case z_all => k_is)
    (case z_bool => k_is)
    (case z_enumerate => k_is)
    (case z_int => k_is)
    (case z_isinstance => k_is)
    (case z_len => k_is)
    (case z_list => k_is)
    (case z_range => k_is)
    (case z_set => k_is)
    (case z_str => k_is)
    (case z_tuple => k_is)
    (case g_MANY => k_is)
    (case g_MOST_MANY => k_is)
    (case g_MOST_ROWS => k_is)
    (case g_NONE => k_is)
    (case aC_RowError => k_is)
    (case i_RowError_ => k_is)
    (case li_RowError => k_is)
    (case ci_RowError => k_is)
    (case ki_RowError => k_is)
    (case rd_RowError => k_is)
    (case ga_RowError => k_is)
    (case e_RowError => k_is)
    (case v_VE => k_is)
    (case aC_BadTable => k_is)
    (case i_BadTable_ => k_is)
    (case li_BadTable => k_is)
    (case ci_BadTable => k_is)
    (case ki_BadTable => k_is)
    (case xL_BadTable => k_is)
    (case sa_BadTable => k_is)
    (case eC_BadTable => k_is)
    (case tC_BadTable => k_is)
    (case kC_BadTable => k_is)
    (case ft_BadTable => k_is)
    (case nC_BadTable => k_is)
