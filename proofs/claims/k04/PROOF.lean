import PyProof.Rows.All
import Wide.All
import OpenK.AllK
import Wide.FinOn
import HandS.ForMost
import HandS.ForExc
import HandS.ExcInit
import HandS.Defaults
import HandS.WordsExc
import HandS.Walk
import HandS.Zip
import HandS.Wide
import HandS.WideBits
import HandS.Deep
import HandS.TupAny
import HandS.SetFor
import HandS.TupLe
import HandS.TupLen
import HandS.WordsDict
import HandS.Steps
import HandS.Style
import HandS.Small
import HandS.MakeKw
import HandS.MakeKwOnly
import HandS.IsInst
import HandS.Conv
import KE.KExcInit
import KE.KExcIs
import PyProof.ExcBaseAll.ValueError
import PyProof.ExcBaseAll.IndexError
import PyProof.ExcBaseAll.LookupError
import PyProof.ExcBaseAll.OverflowError
import PyProof.ReprRoads
import HandS.Head0
import HandS.Head1
import HandS.Head2
import HandS.HeadEnd
import HandS.HeadHook1
import HandS.HeadHook2
import HandS.EndBits
import HandS.Words
import PyProof.FitsInt
import PyProof.Rows.RegStrFacts
import PySem.Challenge.RW_lastinrow_k04_refusals_apart
set_option Elab.async false
set_option linter.all false
set_option autoImplicit false
set_option maxRecDepth 100000
namespace CL
open PySem L2

/-- plain data: what a Python value is worth; cel i: the mutable object number i -/
inductive D where
  | non | bl (b : Bool) | int (i : Int) | str (x : Str)
  | lst (xs : List D) | tup (xs : List D) | dct (t : Bool) (kvs : List (D × D)) | ins (c : Str) (fs : List (Str × D))
  | cel (i : Nat) | ty (n : String)
  /-- an exception of the class c, its attributes -/
  | exc (c : Str) (fs : List (Str × D))
/-- the mutable objects by number; none: no longer mutable -/
abbrev Mem := List (Option D)
abbrev Env := List (Option D)
/-- how a piece of code ends: a value; an exception of the class c (by its name) with the field's value v; no word -/
inductive Rs (α : Type) where
  | ok (a : α) (μ : Mem) | ex (c : Str) (v : D) (μ : Mem) | no
abbrev M (α : Type) := Mem → Rs α
def Rs.bind {α β : Type} : Rs α → (α → M β) → Rs β
  | .ok a μ, k => k a μ
  | .ex c v μ, _ => .ex c v μ
  | .no, _ => .no

/-- where the mutable objects stand by number; the addresses that nobody may see (a list in the making, a dict that is walked) -/
structure Lc where
  cs : List Addr
  hid : List Addr
/-- a live mutable object stands at a, or it is hidden -/
def Live (ρ : Lc) (μ : Mem) (a : Addr) : Prop := a ∈ ρ.hid ∨ ∃ (i : Nat) (d : D), ρ.cs[i]? = some a ∧ μ[i]? = some (some d)
def kD : Key → D
  | .inl i => .int i
  | .inr x => .str x
/-- a list that stands still -/
def FzL (H : Hp) (Lv : Addr → Prop) (a : Addr) (vs : List V) : Prop := Rd H a (.lst vs) ∧ ¬ Lv a
def FzT (K : PySem.W.Frag) (H : Hp) (Lv : Addr → Prop) (a : Addr) (vs : List V) : Prop :=
  (H a = some (.tup vs) ∧ ¬ Lv a) ∨ vs = [] ∧ ∃ (o : Obj) (its : Array Value) (n : Nat), K.lookup a = some o ∧ o.cls = .type "tuple" ∧ o.data = .seq its n ∧ its.size ≤ sizeLine ∧ Vals vs its.toList
section
variable (K : PySem.W.Frag) (mg : Str → Option Value) (H : Hp) (Lv : Addr → Prop) (ρ : List Addr)
mutual
/-- v is worth d -/
inductive R : V → D → Prop
  | non : R .non .non
  | bl (b : Bool) : R (.bl b) (.bl b)
  | int (i : Int) : R (.int i) (.int i)
  | str (x : Str) : R (.str x) (.str x)
  | ty (n : String) : R (.ty n) (.ty n)
  | lst {a : Addr} {vs : List V} {ds : List D} : FzL H Lv a vs → RL vs ds → R (.ref a) (.lst ds)
  | tup {a : Addr} {vs : List V} {ds : List D} : FzT K H Lv a vs → RL vs ds → R (.ref a) (.tup ds)
  | dK {a : Addr} {kvs : List (Key × V)} {vs : List V} {ds : List D} {kds : List (D × D)} : Rd H a (.dK kvs) → ¬ Lv a → vs = kvs.map (·.2) → RL vs ds → kds = (kvs.map fun p => kD p.1).zip ds → R (.ref a) (.dct false kds)
  | dT {a : Addr} {kvs : List (List Key × V)} {vs : List V} {ds : List D} {kds : List (D × D)} : Rd H a (.dT kvs) → ¬ Lv a → vs = kvs.map (·.2) → RL vs ds → kds = (kvs.map fun p => D.tup (p.1.map kD)).zip ds → R (.ref a) (.dct true kds)
  | ins {a C dx : Addr} {fs : List (Str × V)} {vs : List V} {ds : List D} {c : Str} {fds : List (Str × D)} : H a = some (.ins C dx fs) → ¬ Lv a → mg c = some (.ref C) → vs = fs.map (·.2) → RL vs ds → fds = (fs.map (·.1)).zip ds → R (.ref a) (.ins c fds)
  | cel {a : Addr} {i : Nat} : ρ[i]? = some a → R (.ref a) (.cel i)
  | exc {a C dx : Addr} {fs : List (Str × V)} {vs : List V} {ds : List D} {c : Str} {fds : List (Str × D)} : H a = some (exo a C (some dx)) → ¬ Lv a → H dx = some (exd dx fs) → ¬ Lv dx → mg c = some (.ref C) → vs = fs.map (·.2) → RL vs ds → fds = (fs.map (·.1)).zip ds → R (.ref a) (.exc c fds)
inductive RL : List V → List D → Prop
  | nil : RL [] []
  | cons {v : V} {d : D} {vs : List V} {ds : List D} : R v d → RL vs ds → RL (v :: vs) (d :: ds)
end
/-- a live mutable object -/
def CellAt (a : Addr) : D → Prop
  | .lst ds => ∃ vs, H a = some (.lst vs) ∧ RL K mg H Lv ρ vs ds
  | .dct false kds => ∃ (kvs : List (Key × V)) (ds : List D), H a = some (.dK kvs) ∧ RL K mg H Lv ρ (kvs.map (·.2)) ds ∧ kds = (kvs.map fun p => kD p.1).zip ds
  | .dct true kds => ∃ (kvs : List (List Key × V)) (ds : List D), H a = some (.dT kvs) ∧ RL K mg H Lv ρ (kvs.map (·.2)) ds ∧ kds = (kvs.map fun p => D.tup (p.1.map kD)).zip ds
  | .ins c fds => ∃ C dx fs ds, H a = some (.ins C dx fs) ∧ H dx = some (.own a) ∧ ¬ Lv dx ∧ mg c = some (.ref C) ∧ RL K mg H Lv ρ (fs.map (·.2)) ds ∧ fds = (fs.map (·.1)).zip ds
  | _ => False
end

/-- a dict (it may be locked while it is walked) -/
def isD : HO → Bool
  | .dK _ => true
  | .dT _ => true
  | _ => false
/-- what stood as o stands, or it is a dict that is locked -/
def Kp (o : HO) (x : Option HO) : Prop := x = some o ∨ (isD o = true ∧ ∃ od, x = some (.frz od o))
/-- from (H, Lv, ρ) on: what is not live stands, no standing thing becomes live -/
structure Exx (H : Hp) (Lv : Addr → Prop) (ρ : List Addr) (H' : Hp) (Lv' : Addr → Prop) (ρ' : List Addr) : Prop where
  keep : ∀ a o, H a = some o → ¬ Lv a → Kp o (H' a)
  live : ∀ a o, H a = some o → Lv' a → Lv a
  pre : ∀ (i : Nat) (a : Addr), ρ[i]? = some a → ρ'[i]? = some a
theorem Exx.refl {H : Hp} {Lv : Addr → Prop} {ρ : List Addr} : Exx H Lv ρ H Lv ρ := ⟨fun _ _ h _ => .inl h, fun _ _ _ h => h, fun _ _ h => h⟩

section
variable {K : PySem.W.Frag} {mg : Str → Option Value} {H H' H1 H2 : Hp} {Lv Lv' L1 L2 : Addr → Prop} {ρ ρ' ρ1 ρ2 : List Addr}
theorem Exx.nl (e : Exx H Lv ρ H' Lv' ρ') {a : Addr} {o : HO} (h : H a = some o) (n : ¬ Lv a) : ¬ Lv' a := fun z => n (e.live a o h z)
theorem Exx.kept (e : Exx H Lv ρ H' Lv' ρ') {a : Addr} {o : HO} (h : H a = some o) (n : ¬ Lv a) (hd : isD o = false) : H' a = some o := by
  rcases e.keep a o h n with k | ⟨k, _⟩
  · exact k
  · rw [hd] at k
    exact nomatch k
theorem Exx.rd (e : Exx H Lv ρ H' Lv' ρ') {a : Addr} {u : HO} (h : Rd H a u) (n : ¬ Lv a) : Rd H' a u ∧ ¬ Lv' a := by
  rcases h with h | ⟨o, h⟩
  · rcases e.keep a _ h n with k | ⟨_, od, k⟩
    · exact ⟨.inl k, e.nl h n⟩
    · exact ⟨.inr ⟨od, k⟩, e.nl h n⟩
  · exact ⟨.inr ⟨o, e.kept h n rfl⟩, e.nl h n⟩
theorem FzL.mono (e : Exx H Lv ρ H' Lv' ρ') {a : Addr} {vs : List V} (h : FzL H Lv a vs) : FzL H' Lv' a vs := e.rd h.1 h.2
theorem FzT.mono (e : Exx H Lv ρ H' Lv' ρ') {a : Addr} {vs : List V} (h : FzT K H Lv a vs) : FzT K H' Lv' a vs := by
  rcases h with ⟨h, n⟩ | h
  · exact .inl ⟨e.kept h n rfl, e.nl h n⟩
  · exact .inr h
mutual
theorem R.mono (e : Exx H Lv ρ H' Lv' ρ') : ∀ {v : V} {d : D}, R K mg H Lv ρ v d → R K mg H' Lv' ρ' v d
  | _, _, .non => .non
  | _, _, .bl b => .bl b
  | _, _, .int i => .int i
  | _, _, .str x => .str x
  | _, _, .ty n => .ty n
  | _, _, .lst h r => .lst (h.mono e) (RL.mono e r)
  | _, _, .tup h r => .tup (h.mono e) (RL.mono e r)
  | _, _, .dK h n z r q => .dK (e.rd h n).1 (e.rd h n).2 z (RL.mono e r) q
  | _, _, .dT h n z r q => .dT (e.rd h n).1 (e.rd h n).2 z (RL.mono e r) q
  | _, _, .ins h n g z r q => .ins (e.kept h n rfl) (e.nl h n) g z (RL.mono e r) q
  | _, _, .cel h => .cel (e.pre _ _ h)
  | _, _, .exc h n h2 n2 g z r q => .exc (e.kept h n rfl) (e.nl h n) (e.kept h2 n2 rfl) (e.nl h2 n2) g z (RL.mono e r) q
theorem RL.mono (e : Exx H Lv ρ H' Lv' ρ') : ∀ {vs : List V} {ds : List D}, RL K mg H Lv ρ vs ds → RL K mg H' Lv' ρ' vs ds
  | _, _, .nil => .nil
  | _, _, .cons r t => .cons (R.mono e r) (RL.mono e t)
end
theorem Exx.trans (a : Exx H Lv ρ H1 L1 ρ1) (b : Exx H1 L1 ρ1 H2 L2 ρ2) : Exx H Lv ρ H2 L2 ρ2 where
  keep := fun x o h n => by
    rcases a.keep x o h n with k | ⟨hd, od, k⟩
    · exact b.keep x o k (a.nl h n)
    · exact .inr ⟨hd, od, b.kept k (a.nl h n) rfl⟩
  live := fun x o h l => by
    apply Classical.byContradiction
    intro n
    rcases a.keep x o h n with k | ⟨_, od, k⟩
    · exact a.nl h n (b.live x o k l)
    · exact a.nl h n (b.live x _ k l)
  pre := fun i x h => b.pre i x (a.pre i x h)
theorem RL.length : ∀ {vs : List V} {ds : List D}, RL K mg H Lv ρ vs ds → vs.length = ds.length
  | _, _, .nil => rfl
  | _, _, .cons _ t => congrArg (· + 1) (RL.length t)
theorem RL.get : ∀ {vs : List V} {ds : List D} {i : Nat} {d : D}, RL K mg H Lv ρ vs ds → ds[i]? = some d → ∃ v, vs[i]? = some v ∧ R K mg H Lv ρ v d
  | _, _, i, _, .nil, e => by simp at e
  | _, _, 0, d, .cons r _, e => by
    have e1 : _ = d := Option.some.inj (by simpa using e)
    subst e1
    exact ⟨_, rfl, r⟩
  | _, _, i + 1, d, .cons _ t, e => by
    obtain ⟨v, h1, h2⟩ := RL.get (i := i) (d := d) t (by simpa using e)
    exact ⟨v, by simpa using h1, h2⟩
theorem RL.getV : ∀ {vs : List V} {ds : List D} {i : Nat} {v : V}, RL K mg H Lv ρ vs ds → vs[i]? = some v → ∃ d, ds[i]? = some d ∧ R K mg H Lv ρ v d
  | _, _, i, _, .nil, e => by simp at e
  | _, _, 0, v, .cons r _, e => by
    have e1 : _ = v := Option.some.inj (by simpa using e)
    subst e1
    exact ⟨_, rfl, r⟩
  | _, _, i + 1, d, .cons _ t, e => by
    obtain ⟨v, h1, h2⟩ := RL.getV (i := i) (v := d) t (by simpa using e)
    exact ⟨v, by simpa using h1, h2⟩
theorem RL.append : ∀ {vs ws : List V} {ds es : List D}, RL K mg H Lv ρ vs ds → RL K mg H Lv ρ ws es → RL K mg H Lv ρ (vs ++ ws) (ds ++ es)
  | _, _, _, _, .nil, s => s
  | _, _, _, _, .cons r t, s => .cons r (RL.append t s)
theorem RL.take : ∀ {vs : List V} {ds : List D} (n : Nat), RL K mg H Lv ρ vs ds → RL K mg H Lv ρ (vs.take n) (ds.take n)
  | _, _, 0, _ => by simp; exact .nil
  | _, _, _ + 1, .nil => .nil
  | _, _, n + 1, .cons r t => .cons r (RL.take n t)
theorem RL.drop : ∀ {vs : List V} {ds : List D} (n : Nat), RL K mg H Lv ρ vs ds → RL K mg H Lv ρ (vs.drop n) (ds.drop n)
  | _, _, 0, r => r
  | _, _, _ + 1, .nil => .nil
  | _, _, n + 1, .cons _ t => RL.drop n t
theorem RL.set {v : V} {d : D} (r : R K mg H Lv ρ v d) : ∀ {vs : List V} {ds : List D} (i : Nat), RL K mg H Lv ρ vs ds → RL K mg H Lv ρ (vs.set i v) (ds.set i d)
  | _, _, _, .nil => .nil
  | _, _, 0, .cons _ t => .cons r t
  | _, _, i + 1, .cons q t => .cons q (RL.set r i t)
theorem RL.one {v : V} {d : D} (r : R K mg H Lv ρ v d) : RL K mg H Lv ρ [v] [d] := .cons r .nil
theorem RL.reverse : ∀ {vs : List V} {ds : List D}, RL K mg H Lv ρ vs ds → RL K mg H Lv ρ vs.reverse ds.reverse
  | _, _, .nil => .nil
  | _, _, .cons r t => by
    rw [List.reverse_cons, List.reverse_cons]
    exact RL.append (RL.reverse t) (.one r)
theorem CellAt.mono (e : Exx H Lv ρ H' Lv' ρ') {a : Addr} {d : D} (h : CellAt K mg H Lv ρ a d) (ha : H' a = H a) : CellAt K mg H' Lv' ρ' a d := by
  cases d with
  | lst ds => obtain ⟨vs, h1, h2⟩ := h; exact ⟨vs, ha.trans h1, h2.mono e⟩
  | dct t kds =>
    cases t with
    | false => obtain ⟨kvs, ds, h1, h2, h3⟩ := h; exact ⟨kvs, ds, ha.trans h1, h2.mono e, h3⟩
    | true => obtain ⟨kvs, ds, h1, h2, h3⟩ := h; exact ⟨kvs, ds, ha.trans h1, h2.mono e, h3⟩
  | ins c fds => obtain ⟨C, dx, fs, ds, h1, h2, h3, h4, h5, h6⟩ := h; exact ⟨C, dx, fs, ds, ha.trans h1, e.kept h2 h3 rfl, e.nl h2 h3, h4, h5.mono e, h6⟩
  | _ => exact h
end

/-- the world: the cells stand as the memory says -/
structure Wd (K : PySem.W.Frag) (mg : Str → Option Value) (H : Hp) (ρ : Lc) (μ : Mem) : Prop where
  len : ρ.cs.length = μ.length
  nd : ρ.cs.Nodup
  trk : ∀ a ∈ ρ.cs, ∃ o, H a = some o
  hid : ∀ a ∈ ρ.hid, (∃ o, H a = some o) ∧ a ∉ ρ.cs
  cell : ∀ (i : Nat) (d : D) (a : Addr), μ[i]? = some (some d) → ρ.cs[i]? = some a → CellAt K mg H (Live ρ μ) ρ.cs a d
abbrev Rm (K : PySem.W.Frag) (mg : Str → Option Value) (H : Hp) (ρ : Lc) (μ : Mem) : V → D → Prop := R K mg H (Live ρ μ) ρ.cs
abbrev RLm (K : PySem.W.Frag) (mg : Str → Option Value) (H : Hp) (ρ : Lc) (μ : Mem) : List V → List D → Prop := RL K mg H (Live ρ μ) ρ.cs
/-- from one world to a later one -/
structure Exm (H : Hp) (ρ : Lc) (μ : Mem) (H' : Hp) (ρ' : Lc) (μ' : Mem) : Prop where
  x : Exx H (Live ρ μ) ρ.cs H' (Live ρ' μ') ρ'.cs
  hs : ρ'.hid = ρ.hid
  ha : ∀ a ∈ ρ.hid, H' a = H a
theorem Exm.refl {H : Hp} {ρ : Lc} {μ : Mem} : Exm H ρ μ H ρ μ := ⟨Exx.refl, rfl, fun _ _ => rfl⟩
theorem Exm.trans {H H1 H2 : Hp} {ρ ρ1 ρ2 : Lc} {μ μ1 μ2 : Mem} (a : Exm H ρ μ H1 ρ1 μ1) (b : Exm H1 ρ1 μ1 H2 ρ2 μ2) : Exm H ρ μ H2 ρ2 μ2 :=
  ⟨a.x.trans b.x, b.hs.trans a.hs, fun x h => (b.ha x (by rw [a.hs]; exact h)).trans (a.ha x h)⟩
/-- the slots -/
structure REnv (K : PySem.W.Frag) (mg : Str → Option Value) (H : Hp) (ρ : Lc) (μ : Mem) (σ : L2.St) (env : Env) : Prop where
  len : σ.length = env.length
  at_ : ∀ (i : Nat) (d : D), env[i]? = some (some d) → ∃ v, σ[i]? = some (some v) ∧ Rm K mg H ρ μ v d
section
variable {K : PySem.W.Frag} {mg : Str → Option Value} {H H' H1 : Hp} {ρ ρ' ρ1 : Lc} {μ μ' μ1 : Mem} {σ : L2.St} {env : Env}
theorem REnv.mono (e : Exm H ρ μ H' ρ' μ') (r : REnv K mg H ρ μ σ env) : REnv K mg H' ρ' μ' σ env :=
  ⟨r.len, fun i d h => let ⟨v, h1, h2⟩ := r.at_ i d h; ⟨v, h1, h2.mono e.x⟩⟩
theorem REnv.set (r : REnv K mg H ρ μ σ env) (i : Nat) {v : V} {d : D} (h : Rm K mg H ρ μ v d) : REnv K mg H ρ μ (σ.set i (some v)) (env.set i (some d)) := by
  refine ⟨by simp [r.len], fun j e he => ?_⟩
  by_cases hj : i = j
  · subst hj
    have hl : i < env.length := by
      have := (List.getElem?_eq_some_iff.mp he).1
      simpa using this
    rw [List.getElem?_set_self hl] at he
    have e1 := Option.some.inj (Option.some.inj he)
    subst e1
    exact ⟨v, List.getElem?_set_self (by rw [r.len]; exact hl), h⟩
  · rw [List.getElem?_set_ne hj] at he
    obtain ⟨w, h1, h2⟩ := r.at_ j e he
    exact ⟨w, by rw [List.getElem?_set_ne hj]; exact h1, h2⟩
end

/-- what is wanted behind: r the mirror's result -/
def Post (K : PySem.W.Frag) (mg : Str → Option Value) (r : Rs D) (H : Hp) (ρ : Lc) (μ : Mem) (Q : VK) (E : XK) : Prop :=
  match r with
  | .ok d μ' => ∀ v H' ρ', Exm H ρ μ H' ρ' μ' → Wd K mg H' ρ' μ' → Rm K mg H' ρ' μ' v d → Q v H'
  | .ex c x μ' => ∀ cls od H' ρ', Exm H ρ μ H' ρ' μ' → Wd K mg H' ρ' μ' → (∃ C dd f y, mg c = some (.ref C) ∧ cls = .ref C ∧ od = some dd ∧ H' dd = some (.xd [(f, y)]) ∧ Rm K mg H' ρ' μ' y x) → E cls od H'
  | .no => False
def PostL (K : PySem.W.Frag) (mg : Str → Option Value) (r : Rs (List D)) (H : Hp) (ρ : Lc) (μ : Mem) (Q : List V → Hp → Prop) (E : XK) : Prop :=
  match r with
  | .ok d μ' => ∀ v H' ρ', Exm H ρ μ H' ρ' μ' → Wd K mg H' ρ' μ' → RLm K mg H' ρ' μ' v d → Q v H'
  | .ex c x μ' => ∀ cls od H' ρ', Exm H ρ μ H' ρ' μ' → Wd K mg H' ρ' μ' → (∃ C dd f y, mg c = some (.ref C) ∧ cls = .ref C ∧ od = some dd ∧ H' dd = some (.xd [(f, y)]) ∧ Rm K mg H' ρ' μ' y x) → E cls od H'
  | .no => False
def PostB (K : PySem.W.Frag) (mg : Str → Option Value) (r : Rs Bool) (H : Hp) (ρ : Lc) (μ : Mem) (Q : Bool → Hp → Prop) (E : XK) : Prop :=
  match r with
  | .ok b μ' => ∀ H' ρ', Exm H ρ μ H' ρ' μ' → Wd K mg H' ρ' μ' → Q b H'
  | .ex c x μ' => ∀ cls od H' ρ', Exm H ρ μ H' ρ' μ' → Wd K mg H' ρ' μ' → (∃ C dd f y, mg c = some (.ref C) ∧ cls = .ref C ∧ od = some dd ∧ H' dd = some (.xd [(f, y)]) ∧ Rm K mg H' ρ' μ' y x) → E cls od H'
  | .no => False
abbrev ME := Env → M D
abbrev MB := Env → M Bool
abbrev ML := Env → M (List D)
/-- an expression's reading by its mirror -/
def tM (K : PySem.W.Frag) (mg : Str → Option Value) (W : WX) (m : ME) : TE := fun σ H Q => ∃ ρ μ env, Wd K mg H ρ μ ∧ REnv K mg H ρ μ σ env ∧ Post K mg (m env μ) H ρ μ Q (fun c od H' => W c od σ H')
def tMB (K : PySem.W.Frag) (mg : Str → Option Value) (W : WX) (m : MB) : TT := fun σ H Q => ∃ ρ μ env, Wd K mg H ρ μ ∧ REnv K mg H ρ μ σ env ∧ PostB K mg (m env μ) H ρ μ Q (fun c od H' => W c od σ H')
def tML (K : PySem.W.Frag) (mg : Str → Option Value) (W : WX) (m : ML) : TA := fun σ H Q => ∃ ρ μ env, Wd K mg H ρ μ ∧ REnv K mg H ρ μ σ env ∧ PostL K mg (m env μ) H ρ μ Q (fun c od H' => W c od σ H')

section
variable {K : PySem.W.Frag} {mg : Str → Option Value} {H H1 : Hp} {ρ ρ1 : Lc} {μ μ1 : Mem} {σ : L2.St} {env : Env} {W : WX} {Q : VK} {E : XK}
theorem Post.base {r : Rs D} (e : Exm H ρ μ H1 ρ1 μ1) (p : Post K mg r H ρ μ Q E) : Post K mg r H1 ρ1 μ1 Q E := by
  cases r with
  | ok d μ' => exact fun v H' ρ' e' => p v H' ρ' (e.trans e')
  | ex c x μ' => exact fun cls od H' ρ' e' => p cls od H' ρ' (e.trans e')
  | no => exact p
theorem PostL.base {r : Rs (List D)} {Q : List V → Hp → Prop} (e : Exm H ρ μ H1 ρ1 μ1) (p : PostL K mg r H ρ μ Q E) : PostL K mg r H1 ρ1 μ1 Q E := by
  cases r with
  | ok d μ' => exact fun v H' ρ' e' => p v H' ρ' (e.trans e')
  | ex c x μ' => exact fun cls od H' ρ' e' => p cls od H' ρ' (e.trans e')
  | no => exact p
theorem PostB.base {r : Rs Bool} {Q : Bool → Hp → Prop} (e : Exm H ρ μ H1 ρ1 μ1) (p : PostB K mg r H ρ μ Q E) : PostB K mg r H1 ρ1 μ1 Q E := by
  cases r with
  | ok d μ' => exact fun H' ρ' e' => p H' ρ' (e.trans e')
  | ex c x μ' => exact fun cls od H' ρ' e' => p cls od H' ρ' (e.trans e')
  | no => exact p
/-- the value as it is, at the heap as it is -/
theorem Post.ok {d : D} {v : V} (w : Wd K mg H ρ μ) (p : Post K mg (.ok d μ) H ρ μ Q E) (r : Rm K mg H ρ μ v d) : Q v H := p v H ρ Exm.refl w r
/-- one after another -/
theorem post_bind {r : Rs D} {k : D → M D} (p : Post K mg (r.bind k) H ρ μ Q E) :
    Post K mg r H ρ μ (fun v H1 => ∃ d ρ1 μ1, Exm H ρ μ H1 ρ1 μ1 ∧ Wd K mg H1 ρ1 μ1 ∧ Rm K mg H1 ρ1 μ1 v d ∧ Post K mg (k d μ1) H1 ρ1 μ1 Q E) E := by
  cases r with
  | ok d μ' => exact fun v H' ρ' e w r => ⟨d, ρ', μ', e, w, r, Post.base e p⟩
  | ex c x μ' => exact p
  | no => exact p
theorem post_bindL {r : Rs D} {k : D → M (List D)} {Q : List V → Hp → Prop} (p : PostL K mg (r.bind k) H ρ μ Q E) :
    Post K mg r H ρ μ (fun v H1 => ∃ d ρ1 μ1, Exm H ρ μ H1 ρ1 μ1 ∧ Wd K mg H1 ρ1 μ1 ∧ Rm K mg H1 ρ1 μ1 v d ∧ PostL K mg (k d μ1) H1 ρ1 μ1 Q E) E := by
  cases r with
  | ok d μ' => exact fun v H' ρ' e w r => ⟨d, ρ', μ', e, w, r, PostL.base e p⟩
  | ex c x μ' => exact p
  | no => exact p
theorem postL_bindL {r : Rs (List D)} {k : List D → M (List D)} {Q : List V → Hp → Prop} (p : PostL K mg (r.bind k) H ρ μ Q E) :
    PostL K mg r H ρ μ (fun v H1 => ∃ d ρ1 μ1, Exm H ρ μ H1 ρ1 μ1 ∧ Wd K mg H1 ρ1 μ1 ∧ RLm K mg H1 ρ1 μ1 v d ∧ PostL K mg (k d μ1) H1 ρ1 μ1 Q E) E := by
  cases r with
  | ok d μ' => exact fun v H' ρ' e w r => ⟨d, ρ', μ', e, w, r, PostL.base e p⟩
  | ex c x μ' => exact p
  | no => exact p
theorem postL_bind {r : Rs (List D)} {k : List D → M D} (p : Post K mg (r.bind k) H ρ μ Q E) :
    PostL K mg r H ρ μ (fun v H1 => ∃ d ρ1 μ1, Exm H ρ μ H1 ρ1 μ1 ∧ Wd K mg H1 ρ1 μ1 ∧ RLm K mg H1 ρ1 μ1 v d ∧ Post K mg (k d μ1) H1 ρ1 μ1 Q E) E := by
  cases r with
  | ok d μ' => exact fun v H' ρ' e w r => ⟨d, ρ', μ', e, w, r, Post.base e p⟩
  | ex c x μ' => exact p
  | no => exact p
theorem post_bindB {r : Rs D} {k : D → M Bool} {Q : Bool → Hp → Prop} (p : PostB K mg (r.bind k) H ρ μ Q E) :
    Post K mg r H ρ μ (fun v H1 => ∃ d ρ1 μ1, Exm H ρ μ H1 ρ1 μ1 ∧ Wd K mg H1 ρ1 μ1 ∧ Rm K mg H1 ρ1 μ1 v d ∧ PostB K mg (k d μ1) H1 ρ1 μ1 Q E) E := by
  cases r with
  | ok d μ' => exact fun v H' ρ' e w r => ⟨d, ρ', μ', e, w, r, PostB.base e p⟩
  | ex c x μ' => exact p
  | no => exact p
theorem postB_bindB {r : Rs Bool} {k : Bool → M Bool} {Q : Bool → Hp → Prop} (p : PostB K mg (r.bind k) H ρ μ Q E) :
    PostB K mg r H ρ μ (fun b H1 => ∃ ρ1 μ1, Exm H ρ μ H1 ρ1 μ1 ∧ Wd K mg H1 ρ1 μ1 ∧ PostB K mg (k b μ1) H1 ρ1 μ1 Q E) E := by
  cases r with
  | ok d μ' => exact fun H' ρ' e w => ⟨ρ', μ', e, w, PostB.base e p⟩
  | ex c x μ' => exact p
  | no => exact p
theorem postB_bind {r : Rs Bool} {k : Bool → M D} (p : Post K mg (r.bind k) H ρ μ Q E) :
    PostB K mg r H ρ μ (fun b H1 => ∃ ρ1 μ1, Exm H ρ μ H1 ρ1 μ1 ∧ Wd K mg H1 ρ1 μ1 ∧ Post K mg (k b μ1) H1 ρ1 μ1 Q E) E := by
  cases r with
  | ok d μ' => exact fun H' ρ' e w => ⟨ρ', μ', e, w, Post.base e p⟩
  | ex c x μ' => exact p
  | no => exact p
theorem Post.imp {r : Rs D} {Q' : VK} {E' : XK} (p : Post K mg r H ρ μ Q E) (h : ∀ v H', Q v H' → Q' v H') (hE : ∀ c o H', E c o H' → E' c o H') : Post K mg r H ρ μ Q' E' := by
  cases r with
  | ok d μ' => exact fun v H' ρ' e w r => h _ _ (p v H' ρ' e w r)
  | ex c x μ' => exact fun cls od H' ρ' e w r => hE _ _ _ (p cls od H' ρ' e w r)
  | no => exact p
end
/-- a weaker reading -/
theorem PE.imp {X : Cx} {e : Expr} {t t' : TE} (h : PE X e t) (i : ∀ σ H Q, t' σ H Q → t σ H Q) : PE X e t' := ⟨fun pins s σ H Q I q => h.run pins s σ H Q I (i σ H Q q)⟩
theorem PT.imp {X : Cx} {e : Expr} {t t' : TT} (h : PT X e t) (i : ∀ σ H Q, t' σ H Q → t σ H Q) : PT X e t' := ⟨fun pins s σ H Q I q => h.run pins s σ H Q I (i σ H Q q)⟩
theorem PW.imp {X : Cx} {e : Expr} {t t' : TT} (h : PW X e t) (i : ∀ σ H Q, t' σ H Q → t σ H Q) : PW X e t' := ⟨fun wh pins s σ H Q I q => h.run wh pins s σ H Q I (i σ H Q q)⟩
theorem PA.imp {X : Cx} {e : List Expr} {t t' : TA} (h : PA X e t) (i : ∀ σ H Q, t' σ H Q → t σ H Q) : PA X e t' := ⟨fun pos pins s σ H Q I q => h.run pos pins s σ H Q I (i σ H Q q)⟩
theorem PS.imp {X : Cx} {e : Stmt} {t t' : TS} (h : PS X e t) (i : ∀ D σ H, t' D σ H → t D σ H) : PS X e t' := ⟨fun pins s σ H D I q => h.run pins s σ H D I (i D σ H q)⟩
theorem PSs.imp {X : Cx} {e : List Stmt} {t t' : TS} (h : PSs X e t) (i : ∀ D σ H, t' D σ H → t D σ H) : PSs X e t' := ⟨fun pins s σ H D I q => h.run pins s σ H D I (i D σ H q)⟩

/-- the expression does what its mirror says -/
abbrev SE (X : Cx) (W : WX) (e : Expr) (m : ME) : Prop := PE X e (tM X.K X.mg W m)
abbrev ST (X : Cx) (W : WX) (e : Expr) (m : MB) : Prop := PT X e (tMB X.K X.mg W m)
abbrev SW (X : Cx) (W : WX) (e : Expr) (m : MB) : Prop := PW X e (tMB X.K X.mg W m)
abbrev SA (X : Cx) (W : WX) (es : List Expr) (m : ML) : Prop := PA X es (tML X.K X.mg W m)

def mVar (i : Nat) : ME := fun env μ => match env[i]? with
  | some (some d) => .ok d μ
  | _ => .no
def mC (d : D) : ME := fun _ μ => .ok d μ
def mBin (g : D → D → M D) (a b : ME) : ME := fun env μ => (a env μ).bind fun x μ1 => (b env μ1).bind fun y => g x y
def mUn (g : D → M D) (a : ME) : ME := fun env μ => (a env μ).bind g
def mNil : ML := fun _ μ => .ok [] μ
def mCons (a : ME) (r : ML) : ML := fun env μ => (a env μ).bind fun x μ1 => (r env μ1).bind fun xs μ2 => .ok (x :: xs) μ2
def mCall (f : List D → M D) (a : ML) : ME := fun env μ => (a env μ).bind f
def mIf (c : MB) (a b : ME) : ME := fun env μ => (c env μ).bind fun t μ1 => if t = true then a env μ1 else b env μ1
def bNot (a : MB) : MB := fun env μ => (a env μ).bind fun t μ1 => .ok (!t) μ1
def bAnd (a b : MB) : MB := fun env μ => (a env μ).bind fun t μ1 => if t = true then b env μ1 else .ok false μ1
def bOr (a b : MB) : MB := fun env μ => (a env μ).bind fun t μ1 => if t = true then .ok true μ1 else b env μ1
/-- a bool as a test -/
def asB : D → M Bool
  | .bl b, μ => .ok b μ
  | _, _ => .no
def bVal (a : ME) : MB := fun env μ => (a env μ).bind asB
/-- .. as values (bools) -/
def mNot (a : ME) : ME := fun env μ => (a env μ).bind fun x μ1 => match x with
  | .bl b => .ok (.bl (!b)) μ1
  | _ => .no
def mAnd (a b : ME) : ME := fun env μ => (a env μ).bind fun x μ1 => match x with
  | .bl c => if c = true then b env μ1 else .ok (.bl false) μ1
  | _ => .no
def mOr (a b : ME) : ME := fun env μ => (a env μ).bind fun x μ1 => match x with
  | .bl c => if c = true then .ok (.bl true) μ1 else b env μ1
  | _ => .no

/-- an operation by values and its mirror -/
def OpM (K : PySem.W.Frag) (mg : Str → Option Value) (r : R2) (g : D → D → M D) : Prop :=
  ∀ (H : Hp) (ρ : Lc) (μ : Mem) (x y : V) (a b : D) (Q : VK) (E : XK), Wd K mg H ρ μ → Rm K mg H ρ μ x a → Rm K mg H ρ μ y b → Post K mg (g a b μ) H ρ μ Q E → r x y H Q
def CallM (K : PySem.W.Frag) (mg : Str → Option Value) (r : List V → Hp → VK → Prop) (g : List D → M D) : Prop :=
  ∀ (H : Hp) (ρ : Lc) (μ : Mem) (vs : List V) (ds : List D) (Q : VK) (E : XK), Wd K mg H ρ μ → RLm K mg H ρ μ vs ds → Post K mg (g ds μ) H ρ μ Q E → r vs H Q

section
variable {X : Cx} {W : WX} {a b e : Expr} {es : List Expr} {pos : Pos} {ma mb : ME} {ml : ML}
theorem se_var {i : Nat} {x : Str} (hN : X.N[i]? = some x := by rfl) (hv : Vis X.env.scope x := by first | exact Or.inl rfl | exact Or.inr (Or.inl rfl) | exact Or.inr (Or.inr rfl)) (hd : (x == ("__debug__" : Str)) = false := by decide)
    (hcd : (x == ("__classdict__" : Str)) = false := by decide) : SE X W (.Name x pos) (mVar i) := by
  refine PE.imp (pe_var hN hv hd hcd) fun σ H Q ⟨ρ, μ, env, w, r, p⟩ => ?_
  unfold mVar at p
  cases h : env[i]? with
  | none => rw [h] at p; exact False.elim p
  | some o =>
    rw [h] at p
    cases o with
    | none => exact False.elim p
    | some d =>
      obtain ⟨v, h1, h2⟩ := r.at_ i d h
      exact ⟨v, h1, Post.ok w p h2⟩
theorem se_c {v : V} {d : D} (h : PE X e (tC v)) (r : ∀ H Lv ρ, R X.K X.mg H Lv ρ v d) : SE X W e (mC d) :=
  PE.imp h fun σ H Q ⟨ρ, μ, env, w, _, p⟩ => Post.ok w p (r _ _ _)
theorem se_int {i : Int} {j : Nat} : SE X W (.Constant (.int i) j pos) (mC (.int i)) := se_c pe_int fun _ _ _ => .int i
theorem se_bl {i : Bool} {j : Nat} : SE X W (.Constant (.bool i) j pos) (mC (.bl i)) := se_c pe_bl fun _ _ _ => .bl i
theorem se_non {j : Nat} : SE X W (.Constant .none j pos) (mC .non) := se_c pe_non fun _ _ _ => .non
theorem se_str {x : Str} {j : Nat} : SE X W (.Constant (.str x) j pos) (mC (.str x)) := se_c pe_str fun _ _ _ => .str x
theorem se_bin {op : Operator} {r : R2} {g : D → D → M D} (ho : OpR X (binaryOp op) r) (hg : OpM X.K X.mg r g) (ha : SE X W a ma) (hb : SE X W b mb) : SE X W (.BinOp a op b pos) (mBin g ma mb) := by
  refine PE.imp (pe_op ho ha hb) fun σ H Q ⟨ρ, μ, env, w, re, p⟩ => ?_
  refine ⟨ρ, μ, env, w, re, Post.imp (post_bind p) (fun v H1 ⟨d, ρ1, μ1, e1, w1, r1, p1⟩ => ?_) fun _ _ _ z => z⟩
  refine ⟨ρ1, μ1, env, w1, re.mono e1, Post.imp (post_bind p1) (fun v2 H2 ⟨d2, ρ2, μ2, e2, w2, r2, p2⟩ => ?_) fun _ _ _ z => z⟩
  exact hg H2 ρ2 μ2 v v2 d d2 Q _ w2 (r1.mono e2.x) r2 p2
theorem se_cmpR {op : CmpOp} {r : R2} {g : D → D → M D} (ho : OpR X (compareOp op) r) (hg : OpM X.K X.mg r g) (ha : SE X W a ma) (hb : SE X W b mb) (hm : behindInMarks op b = false) : SE X W (.Compare a [op] [b] pos) (mBin g ma mb) := by
  refine PE.imp (pe_cmpR ho ha hb hm) fun σ H Q ⟨ρ, μ, env, w, re, p⟩ => ?_
  refine ⟨ρ, μ, env, w, re, Post.imp (post_bind p) (fun v H1 ⟨d, ρ1, μ1, e1, w1, r1, p1⟩ => ?_) fun _ _ _ z => z⟩
  refine ⟨ρ1, μ1, env, w1, re.mono e1, Post.imp (post_bind p1) (fun v2 H2 ⟨d2, ρ2, μ2, e2, w2, r2, p2⟩ => ?_) fun _ _ _ z => z⟩
  exact hg H2 ρ2 μ2 v v2 d d2 Q _ w2 (r1.mono e2.x) r2 p2
theorem sa_nil : SA X W [] mNil := PA.imp pa_nil fun σ H Q ⟨ρ, μ, env, w, _, p⟩ => p [] H ρ Exm.refl w .nil
theorem sa_cons (ha : SE X W e ma) (hr : SA X W es ml) (hs : starEach (e :: es) X.env = (false, eval e X.env) :: starEach es X.env := by rfl) : SA X W (e :: es) (mCons ma ml) := by
  refine PA.imp (pa_cons ha hr hs) fun σ H Q ⟨ρ, μ, env, w, re, p⟩ => ?_
  refine ⟨ρ, μ, env, w, re, Post.imp (post_bindL p) (fun v H1 ⟨d, ρ1, μ1, e1, w1, r1, p1⟩ => ?_) fun _ _ _ z => z⟩
  refine ⟨ρ1, μ1, env, w1, re.mono e1, ?_⟩
  have p2 := postL_bindL p1
  cases h : ml env μ1 with
  | ok ds μ2 =>
    rw [h] at p2
    intro vs H2 ρ2 e2 w2 r2
    obtain ⟨ds2, ρ3, μ3, e3, w3, r3, p3⟩ := p2 vs H2 ρ2 e2 w2 r2
    exact p3 (v :: vs) H2 ρ3 Exm.refl w3 (.cons (r1.mono e3.x) r3)
  | ex c x μ2 => rw [h] at p2; exact p2
  | no => rw [h] at p2; exact p2
theorem sb_val (h : SE X W e ma) (he : ∀ whole, isTrue e X.env whole = (do let v ← whole; standAt e.pos; holding [v] (truthy v)) := by intro _; rfl) : ST X W e (bVal ma) := by
  refine PT.imp (pt_val h he) fun σ H Q ⟨ρ, μ, env, w, re, p⟩ => ?_
  refine ⟨ρ, μ, env, w, re, Post.imp (post_bindB p) (fun v H1 ⟨d, ρ1, μ1, e1, w1, r1, p1⟩ => ?_) fun _ _ _ z => z⟩
  cases r1 with
  | bl b => exact ⟨b, rfl, p1 H1 ρ1 Exm.refl w1⟩
  | _ => exact False.elim p1
/-- a comparison as a test -/
theorem sb_cmpR {op : CmpOp} {r : R2} {g : D → D → M D} (ho : OpR X (compareOp op) r) (hg : OpM X.K X.mg r g) (ha : SE X W a ma) (hb : SE X W b mb) (hm : behindInMarks op b = false) : ST X W (.Compare a [op] [b] pos) (bVal (mBin g ma mb)) := by
  refine PT.imp (pt_cmpR ho ha hb hm) fun σ H Q ⟨ρ, μ, env, w, re, p⟩ => ?_
  have p' := post_bindB p
  refine ⟨ρ, μ, env, w, re, Post.imp (post_bind p') (fun v H1 ⟨d, ρ1, μ1, e1, w1, r1, p1⟩ => ?_) fun _ _ _ z => z⟩
  refine ⟨ρ1, μ1, env, w1, re.mono e1, Post.imp (post_bind p1) (fun v2 H2 ⟨d2, ρ2, μ2, e2, w2, r2, p2⟩ => ?_) fun _ _ _ z => z⟩
  refine hg H2 ρ2 μ2 v v2 d d2 _ _ w2 (r1.mono e2.x) r2 (Post.imp p2 (fun v3 H3 ⟨d3, ρ3, μ3, e3, w3, r3, p3⟩ => ?_) fun _ _ _ z => z)
  cases r3 with
  | bl b => exact ⟨b, rfl, p3 H3 ρ3 Exm.refl w3⟩
  | _ => exact False.elim p3
theorem sb_not {ma : MB} (ha : ST X W a ma) : ST X W (.UnaryOp .Not a pos) (bNot ma) := by
  refine PT.imp (pt_not ha) fun σ H Q ⟨ρ, μ, env, w, re, p⟩ => ?_
  refine ⟨ρ, μ, env, w, re, ?_⟩
  have p1 := postB_bindB p
  cases h : ma env μ with
  | ok b μ1 =>
    rw [h] at p1
    intro H1 ρ1 e1 w1
    obtain ⟨ρ2, μ2, e2, w2, p2⟩ := p1 H1 ρ1 e1 w1
    exact p2 H1 ρ2 Exm.refl w2
  | ex c x μ2 => rw [h] at p1; exact p1
  | no => rw [h] at p1; exact p1
theorem sw_and1 {ma : MB} (ha : ST X W a ma) : SW X W (.BoolOp .And [a] pos) ma := pw_and1 ha
theorem sw_or1 {ma : MB} (ha : ST X W a ma) : SW X W (.BoolOp .Or [a] pos) ma := pw_or1 ha
theorem PostB.imp {K : PySem.W.Frag} {mg : Str → Option Value} {H : Hp} {ρ : Lc} {μ : Mem} {E E' : XK} {r : Rs Bool} {Q Q' : Bool → Hp → Prop} (p : PostB K mg r H ρ μ Q E) (h : ∀ v H', Q v H' → Q' v H') (hE : ∀ c o H', E c o H' → E' c o H') : PostB K mg r H ρ μ Q' E' := by
  cases r with
  | ok d μ' => exact fun H' ρ' e w => h _ _ (p H' ρ' e w)
  | ex c x μ' => exact fun cls od H' ρ' e w r => hE _ _ _ (p cls od H' ρ' e w r)
  | no => exact p
theorem sw_and {rest : List Expr} {ma mb : MB} (ha : ST X W a ma) (hb : SW X W (.BoolOp .And (b :: rest) pos) mb) : SW X W (.BoolOp .And (a :: b :: rest) pos) (bAnd ma mb) := by
  refine PW.imp (pw_and ha hb) fun σ H Q ⟨ρ, μ, env, w, re, p⟩ => ?_
  refine ⟨ρ, μ, env, w, re, PostB.imp (postB_bindB p) (fun t H1 ⟨ρ1, μ1, e1, w1, p1⟩ => ?_) fun _ _ _ z => z⟩
  cases t with
  | true => exact ⟨ρ1, μ1, env, w1, re.mono e1, p1⟩
  | false => exact p1 H1 ρ1 Exm.refl w1
theorem sw_or {rest : List Expr} {ma mb : MB} (ha : ST X W a ma) (hb : SW X W (.BoolOp .Or (b :: rest) pos) mb) : SW X W (.BoolOp .Or (a :: b :: rest) pos) (bOr ma mb) := by
  refine PW.imp (pw_or ha hb) fun σ H Q ⟨ρ, μ, env, w, re, p⟩ => ?_
  refine ⟨ρ, μ, env, w, re, PostB.imp (postB_bindB p) (fun t H1 ⟨ρ1, μ1, e1, w1, p1⟩ => ?_) fun _ _ _ z => z⟩
  cases t with
  | true => exact p1 H1 ρ1 Exm.refl w1
  | false => exact ⟨ρ1, μ1, env, w1, re.mono e1, p1⟩
theorem se_one {op : BoolOp} (h : SE X W a ma) : SE X W (.BoolOp op [a] pos) ma := pe_one h
theorem se_and {rest : List Expr} (ha : SE X W a ma) (hb : SE X W (.BoolOp .And (b :: rest) pos) mb) : SE X W (.BoolOp .And (a :: b :: rest) pos) (mAnd ma mb) := by
  refine PE.imp (pe_and ha hb) fun σ H Q ⟨ρ, μ, env, w, re, p⟩ => ?_
  refine ⟨ρ, μ, env, w, re, Post.imp (post_bind p) (fun v H1 ⟨d, ρ1, μ1, e1, w1, r1, p1⟩ => ?_) fun _ _ _ z => z⟩
  cases r1 with
  | bl c =>
    cases c with
    | true => exact ⟨true, rfl, ρ1, μ1, env, w1, re.mono e1, p1⟩
    | false => exact ⟨false, rfl, Post.ok w1 p1 (.bl false)⟩
  | _ => exact False.elim p1
theorem se_or {rest : List Expr} (ha : SE X W a ma) (hb : SE X W (.BoolOp .Or (b :: rest) pos) mb) : SE X W (.BoolOp .Or (a :: b :: rest) pos) (mOr ma mb) := by
  refine PE.imp (pe_or ha hb) fun σ H Q ⟨ρ, μ, env, w, re, p⟩ => ?_
  refine ⟨ρ, μ, env, w, re, Post.imp (post_bind p) (fun v H1 ⟨d, ρ1, μ1, e1, w1, r1, p1⟩ => ?_) fun _ _ _ z => z⟩
  cases r1 with
  | bl c =>
    cases c with
    | true => exact ⟨true, rfl, Post.ok w1 p1 (.bl true)⟩
    | false => exact ⟨false, rfl, ρ1, μ1, env, w1, re.mono e1, p1⟩
  | _ => exact False.elim p1
theorem se_not (ha : SE X W a ma) : SE X W (.UnaryOp .Not a pos) (mNot ma) := by
  refine PE.imp (pe_not ha) fun σ H Q ⟨ρ, μ, env, w, re, p⟩ => ?_
  refine ⟨ρ, μ, env, w, re, Post.imp (post_bind p) (fun v H1 ⟨d, ρ1, μ1, e1, w1, r1, p1⟩ => ?_) fun _ _ _ z => z⟩
  cases r1 with
  | bl c => exact ⟨c, rfl, Post.ok w1 p1 (.bl (!c))⟩
  | _ => exact False.elim p1
theorem se_if {c : Expr} {mc : MB} (hc : ST X W c mc) (ha : SE X W a ma) (hb : SE X W b mb) : SE X W (.IfExp c a b pos) (mIf mc ma mb) := by
  refine PE.imp (pe_ifExp hc ha hb) fun σ H Q ⟨ρ, μ, env, w, re, p⟩ => ?_
  refine ⟨ρ, μ, env, w, re, PostB.imp (postB_bind p) (fun t H1 ⟨ρ1, μ1, e1, w1, p1⟩ => ?_) fun _ _ _ z => z⟩
  cases t with
  | true => exact ⟨ρ1, μ1, env, w1, re.mono e1, p1⟩
  | false => exact ⟨ρ1, μ1, env, w1, re.mono e1, p1⟩
theorem PostL.imp {K : PySem.W.Frag} {mg : Str → Option Value} {H : Hp} {ρ : Lc} {μ : Mem} {E E' : XK} {r : Rs (List D)} {Q Q' : List V → Hp → Prop} (p : PostL K mg r H ρ μ Q E) (h : ∀ v H', Q v H' → Q' v H') (hE : ∀ c o H', E c o H' → E' c o H') : PostL K mg r H ρ μ Q' E' := by
  cases r with
  | ok d μ' => exact fun v H' ρ' e w r => h _ _ (p v H' ρ' e w r)
  | ex c x μ' => exact fun cls od H' ρ' e w r => hE _ _ _ (p cls od H' ρ' e w r)
  | no => exact p
/-- a built-in function, a built-in type, called -/
theorem se_callB {x : Str} {p : Pos} {id : String} {r : List V → Hp → VK → Prop} {g : List D → M D} (hc : CallR X (.builtin id) r) (hg : CallM X.K X.mg r g) (hx : Gl X x) (hm : X.mg x = none) (hv : bootBuiltins x = some (.builtin id)) (ha : SA X W (e :: es) ml)
    (hn : x ≠ "__name__" := by decide) (hdb : (x == ("__debug__" : Str)) = false := by decide) (he : starEach (e :: es) X.env = (false, eval e X.env) :: starEach es X.env := by rfl) (hpl : (backTo pos (starEach es X.env)).any (·.1) = false := by rfl) :
    SE X W (.Call (.Name x p) (e :: es) [] pos) (mCall g ml) := by
  refine PE.imp (pe_callB hc hx hm hv ha hn hdb he hpl) fun σ H Q ⟨ρ, μ, env, w, re, p⟩ => ?_
  refine ⟨ρ, μ, env, w, re, PostL.imp (postL_bind p) (fun v H1 ⟨d, ρ1, μ1, e1, w1, r1, p1⟩ => ?_) fun _ _ _ z => z⟩
  exact hg H1 ρ1 μ1 v d Q _ w1 r1 p1
theorem se_callTy {x : Str} {p : Pos} {T : String} {r : List V → Hp → VK → Prop} {g : List D → M D} (hc : CallR X (.type T) r) (hg : CallM X.K X.mg r g) (hx : Gl X x) (hm : X.mg x = none) (hv : bootBuiltins x = some (.type T)) (ha : SA X W (e :: es) ml)
    (hn : x ≠ "__name__" := by decide) (hdb : (x == ("__debug__" : Str)) = false := by decide) (he : starEach (e :: es) X.env = (false, eval e X.env) :: starEach es X.env := by rfl) (hpl : (backTo pos (starEach es X.env)).any (·.1) = false := by rfl) :
    SE X W (.Call (.Name x p) (e :: es) [] pos) (mCall g ml) := by
  refine PE.imp (pe_callTy hc hx hm hv ha hn hdb he hpl) fun σ H Q ⟨ρ, μ, env, w, re, p⟩ => ?_
  refine ⟨ρ, μ, env, w, re, PostL.imp (postL_bind p) (fun v H1 ⟨d, ρ1, μ1, e1, w1, r1, p1⟩ => ?_) fun _ _ _ z => z⟩
  exact hg H1 ρ1 μ1 v d Q _ w1 r1 p1
end
end CL

namespace CL
open PySem L2 PySem.Spec PyProof.Rows

inductive Sr where
  | nx (env : Env) (μ : Mem) | rt (d : D) (μ : Mem) | bk (env : Env) (μ : Mem) | ct (env : Env) (μ : Mem) | ex (c : Str) (x : D) (env : Env) (μ : Mem) | no
abbrev MS := Env → Mem → Sr
/-- from an expression's result to a statement's -/
def Rs.st {α : Type} (r : Rs α) (env : Env) (k : α → Mem → Sr) : Sr := match r with
  | .ok a μ => k a μ
  | .ex c x μ => .ex c x env μ
  | .no => .no
/-- an exception lies as told -/
def ExAt (K : PySem.W.Frag) (mg : Str → Option Value) (H : Hp) (ρ : Lc) (μ : Mem) (c : Str) (x : D) (cls : Value) (od : Option Addr) : Prop :=
  ∃ C dd f y, mg c = some (.ref C) ∧ cls = .ref C ∧ od = some dd ∧ H dd = some (.xd [(f, y)]) ∧ Rm K mg H ρ μ y x
def PostS (K : PySem.W.Frag) (mg : Str → Option Value) (W : WX) (r : Sr) (H : Hp) (ρ : Lc) (μ : Mem) (Dn : Ends) : Prop :=
  match r with
  | .nx env' μ' => ∀ σ' H' ρ', Exm H ρ μ H' ρ' μ' → Wd K mg H' ρ' μ' → REnv K mg H' ρ' μ' σ' env' → Dn.nx σ' H'
  | .rt d μ' => ∀ v H' ρ', Exm H ρ μ H' ρ' μ' → Wd K mg H' ρ' μ' → Rm K mg H' ρ' μ' v d → Dn.rt v H'
  | .bk env' μ' => ∀ σ' H' ρ', Exm H ρ μ H' ρ' μ' → Wd K mg H' ρ' μ' → REnv K mg H' ρ' μ' σ' env' → Dn.bk σ' H'
  | .ct env' μ' => ∀ σ' H' ρ', Exm H ρ μ H' ρ' μ' → Wd K mg H' ρ' μ' → REnv K mg H' ρ' μ' σ' env' → Dn.ct σ' H'
  | .ex c x env' μ' => ∀ cls od σ' H' ρ', Exm H ρ μ H' ρ' μ' → Wd K mg H' ρ' μ' → REnv K mg H' ρ' μ' σ' env' → ExAt K mg H' ρ' μ' c x cls od → W cls od σ' H'
  | .no => False
def tMS (K : PySem.W.Frag) (mg : Str → Option Value) (W : WX) (m : MS) : TS := fun Dn σ H => ∃ ρ μ env, Wd K mg H ρ μ ∧ REnv K mg H ρ μ σ env ∧ PostS K mg W (m env μ) H ρ μ Dn
abbrev SS (X : Cx) (W : WX) (st : Stmt) (m : MS) : Prop := PS X st (tMS X.K X.mg W m)
abbrev SSs (X : Cx) (W : WX) (st : List Stmt) (m : MS) : Prop := PSs X st (tMS X.K X.mg W m)

section
variable {K : PySem.W.Frag} {mg : Str → Option Value} {W : WX} {H H1 : Hp} {ρ ρ1 : Lc} {μ μ1 : Mem} {σ : L2.St} {env : Env} {Dn Dn' : Ends}
theorem PostS.base {r : Sr} (e : Exm H ρ μ H1 ρ1 μ1) (p : PostS K mg W r H ρ μ Dn) : PostS K mg W r H1 ρ1 μ1 Dn := by
  cases r with
  | nx env' μ' => exact fun σ' H' ρ' e' => p σ' H' ρ' (e.trans e')
  | rt d μ' => exact fun v H' ρ' e' => p v H' ρ' (e.trans e')
  | bk env' μ' => exact fun σ' H' ρ' e' => p σ' H' ρ' (e.trans e')
  | ct env' μ' => exact fun σ' H' ρ' e' => p σ' H' ρ' (e.trans e')
  | ex c x env' μ' => exact fun cls od σ' H' ρ' e' => p cls od σ' H' ρ' (e.trans e')
  | no => exact p
/-- an expression ahead of a statement's end -/
theorem post_st {r : Rs D} {k : D → Mem → Sr} (re : REnv K mg H ρ μ σ env) (p : PostS K mg W (r.st env k) H ρ μ Dn) :
    Post K mg r H ρ μ (fun v H1 => ∃ d ρ1 μ1, Exm H ρ μ H1 ρ1 μ1 ∧ Wd K mg H1 ρ1 μ1 ∧ REnv K mg H1 ρ1 μ1 σ env ∧ Rm K mg H1 ρ1 μ1 v d ∧ PostS K mg W (k d μ1) H1 ρ1 μ1 Dn) (fun c od H' => W c od σ H') := by
  cases r with
  | ok d μ' => exact fun v H' ρ' e w r => ⟨d, ρ', μ', e, w, re.mono e, r, PostS.base e p⟩
  | ex c x μ' => exact fun cls od H' ρ' e w r => p cls od σ H' ρ' e w (re.mono e) r
  | no => exact p
theorem postB_st {r : Rs Bool} {k : Bool → Mem → Sr} (re : REnv K mg H ρ μ σ env) (p : PostS K mg W (r.st env k) H ρ μ Dn) :
    PostB K mg r H ρ μ (fun b H1 => ∃ ρ1 μ1, Exm H ρ μ H1 ρ1 μ1 ∧ Wd K mg H1 ρ1 μ1 ∧ REnv K mg H1 ρ1 μ1 σ env ∧ PostS K mg W (k b μ1) H1 ρ1 μ1 Dn) (fun c od H' => W c od σ H') := by
  cases r with
  | ok d μ' => exact fun H' ρ' e w => ⟨ρ', μ', e, w, re.mono e, PostS.base e p⟩
  | ex c x μ' => exact fun cls od H' ρ' e w r => p cls od σ H' ρ' e w (re.mono e) r
  | no => exact p
theorem postL_st {r : Rs (List D)} {k : List D → Mem → Sr} (re : REnv K mg H ρ μ σ env) (p : PostS K mg W (r.st env k) H ρ μ Dn) :
    PostL K mg r H ρ μ (fun v H1 => ∃ d ρ1 μ1, Exm H ρ μ H1 ρ1 μ1 ∧ Wd K mg H1 ρ1 μ1 ∧ REnv K mg H1 ρ1 μ1 σ env ∧ RLm K mg H1 ρ1 μ1 v d ∧ PostS K mg W (k d μ1) H1 ρ1 μ1 Dn) (fun c od H' => W c od σ H') := by
  cases r with
  | ok d μ' => exact fun v H' ρ' e w r => ⟨d, ρ', μ', e, w, re.mono e, r, PostS.base e p⟩
  | ex c x μ' => exact fun cls od H' ρ' e w r => p cls od σ H' ρ' e w (re.mono e) r
  | no => exact p
theorem PostS.imp {r : Sr} (p : PostS K mg W r H ρ μ Dn) (h1 : ∀ s h, Dn.nx s h → Dn'.nx s h) (h2 : ∀ v h, Dn.rt v h → Dn'.rt v h) (h3 : ∀ s h, Dn.bk s h → Dn'.bk s h) (h4 : ∀ s h, Dn.ct s h → Dn'.ct s h) : PostS K mg W r H ρ μ Dn' := by
  cases r with
  | nx env' μ' => exact fun σ' H' ρ' e w r => h1 _ _ (p σ' H' ρ' e w r)
  | rt d μ' => exact fun v H' ρ' e w r => h2 _ _ (p v H' ρ' e w r)
  | bk env' μ' => exact fun σ' H' ρ' e w r => h3 _ _ (p σ' H' ρ' e w r)
  | ct env' μ' => exact fun σ' H' ρ' e w r => h4 _ _ (p σ' H' ρ' e w r)
  | ex c x env' μ' => exact p
  | no => exact p
end

/-- a target, by its slots and what it does to them -/
structure Tgt where
  slots : List Nat
  put : D → Env → Option Env
def tgName (i : Nat) : Tgt := ⟨[i], fun d env => some (env.set i (some d))⟩
def putAll : List Nat → List D → Env → Option Env
  | [], [], env => some env
  | i :: is, d :: ds, env => putAll is ds (env.set i (some d))
  | _, _, _ => none
def tgTup (is : List Nat) : Tgt := ⟨is, fun d env => match d with
  | .tup ds => putAll is ds env
  | _ => none⟩
/-- what a target's reading asks -/
def gM (K : PySem.W.Frag) (mg : Str → Option Value) (t : Tgt) : TG := fun v σ H Q => ∃ ρ μ env env' d, Wd K mg H ρ μ ∧ REnv K mg H ρ μ σ env ∧ Rm K mg H ρ μ v d ∧ t.put d env = some env' ∧
  ∀ σ', REnv K mg H ρ μ σ' env' → (∀ vs, (∀ i ∈ t.slots, i ∈ vs) → wipe σ' vs = wipe σ vs) → Q σ' H
abbrev SG (X : Cx) (tg : Expr) (t : Tgt) : Prop := PG X tg (gM X.K X.mg t)
theorem PG.imp {X : Cx} {e : Expr} {t t' : TG} (h : PG X e t) (i : ∀ v σ H Q, t' v σ H Q → t v σ H Q) : PG X e t' := ⟨fun pins s σ H v u Q I r q => h.run pins s σ H v u Q I r (i v σ H Q q)⟩
theorem wipe_get {σ : L2.St} {i : Nat} : ∀ {vs : List Nat}, (wipe σ vs)[i]? = if i ∈ vs then σ[i]?.map (fun _ => none) else σ[i]?
  | [] => by simp [wipe]
  | v :: vs => by
    unfold wipe
    by_cases h : v = i
    · subst h
      rw [List.getElem?_set]
      have e := wipe_length σ vs
      by_cases hl : v < σ.length
      · simp [e, hl]
      · simp [e, hl]
    · rw [List.getElem?_set_ne h, wipe_get (vs := vs)]
      have h' : ¬ i = v := fun z => h z.symm
      simp [h']
theorem wipe_set {σ : L2.St} {i : Nat} {x : Option V} {vs : List Nat} (hi : i ∈ vs) : wipe (σ.set i x) vs = wipe σ vs := by
  apply List.ext_getElem?
  intro j
  rw [wipe_get, wipe_get]
  by_cases hj : j ∈ vs
  · simp only [hj, if_true]
    by_cases e : i = j
    · subst e
      by_cases hl : i < σ.length
      · simp [hl]
      · simp [hl]
    · rw [List.getElem?_set_ne e]
  · have e : i ≠ j := fun z => hj (z ▸ hi)
    simp only [hj, if_false, List.getElem?_set_ne e]
section
variable {X : Cx} {pos : Pos}
theorem sg_name {i : Nat} {x : Str} (hN : X.N.Nodup) (hi : X.N[i]? = some x := by rfl) (hx : L2.Loc X.env.scope x := by first | exact Or.inl rfl | exact Or.inr rfl) (hf : X.fn x = true ∨ X.env.scope.names.lookup x = some .local := by first | exact .inl rfl | exact .inr rfl | assumption) : SG X (.Name x pos) (tgName i) := by
  refine PG.imp (pg_name hN hi hx hf) fun v σ H Q ⟨ρ, μ, env, env', d, w, re, r, h, q⟩ => ?_
  have e : env.set i (some d) = env' := Option.some.inj h
  subst e
  exact q _ (re.set i r) fun vs hv => wipe_set (hv i (by simp [tgName]))
/-- several names -/
def gNames : List Nat → TGs
  | [] => gNil
  | i :: is => gCons (gName i) (gNames is)
theorem gNames_run {K : PySem.W.Frag} {mg : Str → Option Value} {H : Hp} {ρ : Lc} {μ : Mem} {Q : L2.St → Hp → Prop} : ∀ {is : List Nat} {vs : List V} {ds : List D} {σ : L2.St} {env env' : Env}, RLm K mg H ρ μ vs ds → REnv K mg H ρ μ σ env → putAll is ds env = some env' →
    (∀ σ', REnv K mg H ρ μ σ' env' → (∀ ws, (∀ i ∈ is, i ∈ ws) → wipe σ' ws = wipe σ ws) → Q σ' H) → gNames is vs σ H Q
  | [], _, _, σ, env, env', .nil, re, h, q => ⟨rfl, q σ (by have e : env = env' := Option.some.inj h; subst e; exact re) fun _ _ => rfl⟩
  | [], _, _, _, _, _, .cons _ _, _, h, _ => nomatch (show (none : Option Env) = some _ from h)
  | i :: is, _, _, _, _, _, .nil, _, h, _ => nomatch (show (none : Option Env) = some _ from h)
  | i :: is, _, _, σ, env, env', .cons (v := v) (d := d) (vs := vs) (ds := ds) r t, re, h, q => by
    refine ⟨v, vs, rfl, ?_⟩
    refine gNames_run (is := is) t (re.set i r) h fun σ' re' hw => q σ' re' fun ws hs => ?_
    rw [hw ws fun j hj => hs j (List.mem_cons_of_mem _ hj)]
    exact wipe_set (hs i List.mem_cons_self)
theorem putAll_len : ∀ {is : List Nat} {ds : List D} {env env' : Env}, putAll is ds env = some env' → ds.length = is.length
  | [], [], _, _, _ => rfl
  | [], _ :: _, _, _, h => nomatch (show (none : Option Env) = some _ from h)
  | _ :: _, [], _, _, h => nomatch (show (none : Option Env) = some _ from h)
  | i :: is, d :: ds, env, env', h => congrArg (· + 1) (putAll_len (is := is) (ds := ds) h)
theorem FzT.sq {K : PySem.W.Frag} {H : Hp} {Lv : Addr → Prop} {a : Addr} {vs : List V} (h : FzT K H Lv a vs) : SqT K H a vs := by
  rcases h with ⟨h, _⟩ | h
  · exact .inl (.inl h)
  · exact .inr h.2
theorem FzL.sq {K : PySem.W.Frag} {H : Hp} {Lv : Addr → Prop} {a : Addr} {vs : List V} (h : FzL H Lv a vs) : SqL K H a vs := .inl h.1
theorem sg_tup {es : List Expr} {k : Nat} {is : List Nat} (hc : X.calm = true) (h : PGs X es (gNames is))
    (hn : (assignEach es X.env).length = is.length := by rfl) (hst : (assignEach es X.env).findIdx? (·.1) = none := by rfl) : SG X (.Tuple es k pos) (tgTup is) := by
  refine PG.imp (pg_tup hc h hn hst) fun v σ H Q ⟨ρ, μ, env, env', d, w, re, r, h, q⟩ => ?_
  cases r with
  | tup f rl =>
    have h' : putAll is _ env = some env' := h
    exact ⟨_, _, rfl, f.sq, by rw [rl.length]; exact putAll_len h', gNames_run rl re h' fun σ' r' hw => q σ' r' hw⟩
  | _ => exact nomatch (show (none : Option Env) = some _ from h)
theorem sgs_nil : PGs X [] (gNames []) := pgs_nil
theorem sgs_cons {x : Str} {p : Pos} {i : Nat} {es : List Expr} {is : List Nat} (hN : X.N.Nodup) (h2 : PGs X es (gNames is)) (hi : X.N[i]? = some x := by rfl) (hx : L2.Loc X.env.scope x := by first | exact Or.inl rfl | exact Or.inr rfl) (hf : X.fn x = true ∨ X.env.scope.names.lookup x = some .local := by first | exact .inl rfl | exact .inr rfl | assumption)
    (hs : (assignEach (.Name x p :: es) X.env).map (·.2) = assign (.Name x p) X.env :: (assignEach es X.env).map (·.2) := by rfl) : PGs X (.Name x p :: es) (gNames (i :: is)) := pgs_cons (pg_name hN hi hx hf) h2 hs
end

def sNx : MS := fun env μ => .nx env μ
def sSeq (a b : MS) : MS := fun env μ => match a env μ with
  | .nx e m => b e m
  | r => r
def sRet (a : ME) : MS := fun env μ => (a env μ).st env fun d m => .rt d m
def sExpr (a : ME) : MS := fun env μ => (a env μ).st env fun _ m => .nx env m
def sIf (c : MB) (a b : MS) : MS := fun env μ => (c env μ).st env fun t m => if t = true then a env m else b env m
def sAsg (a : ME) (t : Tgt) : MS := fun env μ => (a env μ).st env fun d m => match t.put d env with
  | some env' => .nx env' m
  | none => .no
def sPar (i j : Nat) (ml : ML) : MS := fun env μ => (ml env μ).st env fun ds m => match ds with
  | [a, b] => .nx ((env.set i (some a)).set j (some b)) m
  | _ => .no
section
variable {X : Cx} {W : WX} {st : Stmt} {rest : List Stmt} {pos : Pos} {e : Expr} {me : ME} {ms mt : MS}
theorem ss_nil : SSs X W [] sNx := PSs.imp pss_nil fun Dn σ H ⟨ρ, μ, env, w, re, p⟩ => p σ H ρ Exm.refl w re
theorem ss_cons (h1 : SS X W st ms) (h2 : SSs X W rest mt) : SSs X W (st :: rest) (sSeq ms mt) := by
  refine PSs.imp (pss_cons h1 h2) fun Dn σ H ⟨ρ, μ, env, w, re, p⟩ => ?_
  refine ⟨ρ, μ, env, w, re, ?_⟩
  unfold sSeq at p
  cases h : ms env μ with
  | nx e m => rw [h] at p; exact fun σ' H' ρ' e' w' r' => ⟨ρ', m, e, w', r', PostS.base e' p⟩
  | rt d m => rw [h] at p; exact p
  | bk e m => rw [h] at p; exact p
  | ct e m => rw [h] at p; exact p
  | ex c x e m => rw [h] at p; exact p
  | no => rw [h] at p; exact p
theorem ss_one (h1 : SS X W st ms) : SSs X W [st] ms := pss_one h1
theorem s_ret (he : SE X W e me) : SS X W (.Return (some e) pos) (sRet me) := by
  refine PS.imp (ps_ret he) fun Dn σ H ⟨ρ, μ, env, w, re, p⟩ => ?_
  exact ⟨ρ, μ, env, w, re, Post.imp (post_st re p) (fun v H1 ⟨d, ρ1, μ1, e1, w1, _, r1, p1⟩ => p1 v H1 ρ1 Exm.refl w1 r1) fun _ _ _ z => z⟩
theorem s_retN : SS X W (.Return none pos) (sRet (mC .non)) := PS.imp ps_retN fun Dn σ H ⟨ρ, μ, env, w, re, p⟩ => p .non H ρ Exm.refl w .non
theorem s_expr (he : SE X W e me) (hs : swapsWith e none pos.line X.env = pure false := by rfl) : SS X W (.Expr e pos) (sExpr me) := by
  refine PS.imp (ps_expr he hs) fun Dn σ H ⟨ρ, μ, env, w, re, p⟩ => ?_
  exact ⟨ρ, μ, env, w, re, Post.imp (post_st re p) (fun v H1 ⟨d, ρ1, μ1, e1, w1, re1, r1, p1⟩ => p1 σ H1 ρ1 Exm.refl w1 re1) fun _ _ _ z => z⟩
theorem s_pass : SS X W (.Pass pos) sNx := PS.imp ps_pass fun Dn σ H ⟨ρ, μ, env, w, re, p⟩ => p σ H ρ Exm.refl w re
theorem s_break : SS X W (.Break pos) (fun env μ => .bk env μ) := PS.imp ps_break fun Dn σ H ⟨ρ, μ, env, w, re, p⟩ => p σ H ρ Exm.refl w re
theorem s_cont : SS X W (.Continue pos) (fun env μ => .ct env μ) := PS.imp ps_continue fun Dn σ H ⟨ρ, μ, env, w, re, p⟩ => p σ H ρ Exm.refl w re
/-- code that is not come to -/
theorem s_never : SS X W st (fun _ _ => .no) := PS.imp ps_never fun Dn σ H ⟨ρ, μ, env, w, re, p⟩ => p
theorem s_if {c : Expr} {a b : List Stmt} {mc : MB} (hc : ST X W c mc) (ha : SSs X W a ms) (hb : SSs X W b mt) : SS X W (.If c a b pos) (sIf mc ms mt) := by
  refine PS.imp (ps_if hc ha hb) fun Dn σ H ⟨ρ, μ, env, w, re, p⟩ => ?_
  refine ⟨ρ, μ, env, w, re, PostB.imp (postB_st re p) (fun t H1 ⟨ρ1, μ1, e1, w1, re1, p1⟩ => ?_) fun _ _ _ z => z⟩
  cases t with
  | true => exact ⟨ρ1, μ1, env, w1, re1, p1⟩
  | false => exact ⟨ρ1, μ1, env, w1, re1, p1⟩
theorem asg_in {K : PySem.W.Frag} {mg : Str → Option Value} {W : WX} {t : Tgt} {me : ME} {Dn : Ends} {σ : L2.St} {H : Hp} (h : tMS K mg W (sAsg me t) Dn σ H) : tM K mg W me σ H (fun v H1 => gM K mg t v σ H1 Dn.nx) := by
  obtain ⟨ρ, μ, env, w, re, p⟩ := h
  refine ⟨ρ, μ, env, w, re, Post.imp (post_st re p) (fun v H1 ⟨d, ρ1, μ1, e1, w1, re1, r1, p1⟩ => ?_) fun _ _ _ z => z⟩
  cases h : t.put d env with
  | none => rw [h] at p1; exact False.elim p1
  | some env' => rw [h] at p1; exact ⟨ρ1, μ1, env, env', d, w1, re1, r1, h, fun σ' r' _ => p1 σ' H1 ρ1 Exm.refl w1 r'⟩
/-- target = e -/
theorem s_asg {tg : Expr} {t : Tgt} (he : SE X W e me) (hg : SG X tg t) (hs : swapsWithSole [tg] e pos.line X.env = pure false := by rfl) (hw : swappedStores [tg] e X.env = pure none := by rfl)
    (h1 : (assignEach [tg] X.env).map (·.2) = [assign tg X.env] := by rfl) : SS X W (.Assign [tg] e pos) (sAsg me t) := PS.imp (ps_asg he hg hs hw h1) fun Dn σ H h => asg_in h
/-- name = e -/
theorem s_set {i : Nat} {x : Str} {pos' : Pos} (hN : X.N.Nodup) (he : SE X W e me) (hi : X.N[i]? = some x := by rfl) (hx : L2.Loc X.env.scope x := by first | exact Or.inl rfl | exact Or.inr rfl) (hs : swapsWith e (some (.Name x pos')) pos.line X.env = pure false := by rfl) (hf : X.fn x = true ∨ X.env.scope.names.lookup x = some .local := by first | exact .inl rfl | exact .inr rfl | assumption) :
    SS X W (.Assign [.Name x pos'] e pos) (sAsg me (tgName i)) := by
  refine PS.imp (ps_set hN hi hx he hs hf) fun Dn σ H ⟨ρ, μ, env, w, re, p⟩ => ?_
  exact ⟨ρ, μ, env, w, re, Post.imp (post_st re p) (fun v H1 ⟨d, ρ1, μ1, e1, w1, re1, r1, p1⟩ => p1 _ H1 ρ1 Exm.refl w1 (re1.set i r1)) fun _ _ _ z => z⟩
/-- a, b = x, y -/
theorem s_par {i j : Nat} {x y : Str} {a b : Expr} {ml : ML} {px py pt pt2 : Pos} {kt k2 : Nat} (hc : X.calm = true) (hN : X.N.Nodup) (ha : SA X W [a, b] ml)
    (h : ∀ ta, PA X [a, b] ta → PS X (.Assign [.Tuple [.Name x px, .Name y py] kt pt] (.Tuple [a, b] k2 pt2) pos) (tPar i j ta)) :
    SS X W (.Assign [.Tuple [.Name x px, .Name y py] kt pt] (.Tuple [a, b] k2 pt2) pos) (sPar i j ml) := by
  refine PS.imp (h _ ha) fun Dn σ H ⟨ρ, μ, env, w, re, p⟩ => ?_
  refine ⟨ρ, μ, env, w, re, PostL.imp (postL_st re p) (fun v H1 ⟨ds, ρ1, μ1, e1, w1, re1, r1, p1⟩ => ?_) fun _ _ _ z => z⟩
  cases r1 with
  | nil => exact False.elim p1
  | cons ra t =>
    cases t with
    | nil => exact False.elim p1
    | cons rb t =>
      cases t with
      | nil => exact ⟨_, _, rfl, p1 _ H1 ρ1 Exm.refl w1 ((re1.set i ra).set j rb)⟩
      | cons _ _ => exact False.elim p1
end

/-- a def's promise by its mirror -/
def spM (K : PySem.W.Frag) (mg : Str → Option Value) (n : Nat) (f : List D → M D) : Sp := fun vs H Q E => vs.length = n ∧ ∃ ρ μ ds, Wd K mg H ρ μ ∧ RLm K mg H ρ μ vs ds ∧ Post K mg (f ds μ) H ρ μ Q E
/-- a def by its body: n parameters, N slots -/
def fnM (n N : Nat) (b : MS) : List D → M D := fun ds μ => if ds.length = n then (match b (ds.map some ++ List.replicate (N - n) none) μ with
    | .nx _ m => .ok .non m
    | .rt d m => .ok d m
    | .ex c x _ m => .ex c x m
    | _ => .no) else .no
abbrev CXn (P : Program) (w : World) : CXT := L2.CX P w
abbrev WxE (E : XK) : WX := fun cls d _ H => E cls d H
theorem RL.map_env {K : PySem.W.Frag} {mg : Str → Option Value} {H : Hp} {ρ : Lc} {μ : Mem} {vs : List V} {ds : List D} (r : RLm K mg H ρ μ vs ds) (N : List Str) (n : Nat) (h : n = vs.length) :
    REnv K mg H ρ μ (L2.start N vs) (ds.map some ++ List.replicate (N.length - n) none) := by
  refine ⟨by simp [L2.start, r.length, h], fun i d hd => ?_⟩
  by_cases hi : i < ds.length
  · rw [List.getElem?_append_left (by simpa using hi), List.getElem?_map] at hd
    cases hx : ds[i]? with
    | none => rw [hx] at hd; exact nomatch hd
    | some e =>
      rw [hx] at hd
      have e1 := Option.some.inj (Option.some.inj hd)
      subst e1
      obtain ⟨v, h1, h2⟩ := r.get hx
      refine ⟨v, ?_, h2⟩
      unfold L2.start
      rw [List.getElem?_append_left (by rw [List.length_map, r.length]; exact hi), List.getElem?_map, h1]
      rfl
  · rw [List.getElem?_append_right (by simpa using hi), List.getElem?_replicate] at hd
    split at hd <;> exact nomatch hd
structure RmG (k : Nat) (A : Around) : Prop extends Room k A where
  gd : A.guards = some []
theorem RmG.mono {j k : Nat} {A : Around} (r : RmG k A) (h : j ≤ k) : RmG j A := ⟨r.toRoom.mono h, r.gd⟩
theorem RmG.deep {k : Nat} {A : Around} (r : RmG (k + 1) A) (env : PySem.Env) : RmG k (A.deeper env) := ⟨r.toRoom.deeper env, r.gd⟩
theorem RmG.mk2 {k : Nat} {A : Around} (r : RmG (k + 1) A) (C : Addr) (us : List Value) (kw : List (Str × Value)) : RmG k (A.under (.builtin "type.__call__" ⟨.ref C :: us, kw⟩)) :=
  ⟨r.toRoom.make C us kw, by
    have e : (Code.builtin "type.__call__" ⟨.ref C :: us, kw⟩).guards = [] := by
      unfold Code.guards Code.isGuard
      simp [guardIds]
    show pushGuards (Code.builtin "type.__call__" ⟨.ref C :: us, kw⟩).guards A.guards = some []
    rw [e]
    exact r.gd⟩
/-- a def's promise in such a room -/
structure FnG (P : Program) (w : World) (K : PySem.W.Frag) (mg : Str → Option Value) (base : Heap) (CX : CXT) (k : Nat) (f : Addr) (fd : FuncData) (ps : List Str) (sp : Sp) : Prop where
  len : ∀ vs H Q E, sp vs H Q E → vs.length = ps.length
  run : ∀ (A : Around) (outer : List PySem.Env) (s : Shared) (H : Hp) (args : Args) (us : List Value) (vs : List V) (Q : VK) (E : XK), RmG k A → Env0 P w K mg base A outer s H → BindsTo s fd args (ps.zip us) → Vals vs us → sp vs H Q E →
    codeAny (model P w) A (.call (.ref f) args) (CR CX outer P w H s Q E) s
theorem fnG_of {CX : CXT} {P : Program} {w : World} {K : PySem.W.Frag} {mg : Str → Option Value} {base : Heap} {x qual : Str} {params : Arguments} {body : List Stmt} {scope : Scope} {dvs : List V} {kws : List (Str × V)} {f : Addr} {fd : FuncData} {N ps : List Str} {k : Nat} {sp : Sp}
    (F : FunD K x qual params body scope dvs kws f fd) (S : FnScope N ps scope) (len : ∀ vs H Q E, sp vs H Q E → vs.length = ps.length)
    (hbody : ∀ (cdv : Value) (A : Around) (outer : List PySem.Env) (s : Shared) (H : Hp) (vs : List V) (Q : VK) (E : XK), RmG k (A.deeper (envOfC qual scope s.heap.objs.size f cdv)) → sp vs H Q E →
      ∃ t, PSs (cxOf CX P w K mg base N qual scope f cdv A outer s H E) body t ∧ t { nx := fun _ H' => Q .non H', rt := Q } (L2.start N vs) H) : FnG P w K mg base CX (k + 1) f fd ps sp := by
  obtain ⟨oc, od, dV, kV, doc, pm, an, cdv, ct, osl, rfl, lk, hcd, _, _⟩ := F.ex
  refine ⟨len, fun A outer s H args us vs Q E hr e0 hb r hsp => ?_⟩
  have KX : K.In s.heap := e0.mod.kin.keeps fun b o e => (e0.bs b o e).1
  have nol : s.heap.NoLimit := e0.mod.nolimit.keeps fun b o e => (e0.bs b o e).1
  have kinds : ∀ y ∈ ps.zip us, scope.names.lookup y.1 = some .local ∨ (scope.names.lookup y.1 = some .cell ∧ ((cellsFrom (s.heap.objs.size + 1) scope.names []).lookup y.1).isSome = true) := by
    rintro ⟨n, v⟩ hy
    rcases S.par n (List.of_mem_zip hy).1 with z | z
    · exact .inl z
    · exact .inr ⟨z, PySem.W.cellsFrom_some _ _ _ (.inl z)⟩
  refine codeAny_call_function hr.depth (KX _ _ lk) rfl S.co S.gen rfl (PySem.W.codeRec_of KX hcd) (hb _ _ _ _ ?_)
  refine wpAny_newFunctionEnv_cells S.kind kinds fun env he s1 sx => ?_
  subst he
  refine ⟨nol.keeps sx.toInCall.keep, codeAny_func ?_⟩
  obtain ⟨t, pt, pq⟩ := hbody cdv A outer s H vs Q E (hr.deep _) hsp
  have I : Inv (cxOf CX P w K mg base N qual scope f cdv A outer s H E) [] (L2.start N vs) H s1 :=
    inv_start S hr.hd e0 (len _ _ _ _ hsp) r sx
  refine wpAny_mono (pt.run [] s1 (L2.start N vs) H _ I pq) (fun fl s2 z => ?_) fun _ _ z => z
  cases fl with
  | next =>
    obtain ⟨σ2, H2, J, q⟩ := z
    exact ⟨V.non, H2, J.os, J.bare, J.base, J.hok, rfl, q⟩
  | ret u =>
    obtain ⟨v, σ2, H2, J, rv, q⟩ := z
    exact ⟨v, H2, J.os, J.bare, J.base, J.hok, rv, q⟩
  | brk =>
    obtain ⟨_, _, _, q⟩ := z
    exact False.elim q
  | cont =>
    obtain ⟨_, _, _, q⟩ := z
    exact False.elim q
theorem fn_ok {P : Program} {w : World} {K : PySem.W.Frag} {mg : Str → Option Value} {base : Heap} {x qual : Str} {params : Arguments} {body : List Stmt} {scope : Scope} {dvs : List V} {kws : List (Str × V)} {f : Addr} {fd : FuncData} {N ps : List Str} {k n m : Nat} {b : MS}
    (F : FunD K x qual params body scope dvs kws f fd) (S : FnScope N ps scope) (hn : ps.length = n) (hm : N.length = m)
    (hb : ∀ (cdv : Value) (A : Around) (outer : List PySem.Env) (s : Shared) (H : Hp) (E : XK), RmG k (A.deeper (envOfC qual scope s.heap.objs.size f cdv)) → Takes (cxOf (CXn P w) P w K mg base N qual scope f cdv A outer s H E) (WxE E) →
      PassesOwn (model P w) (A.deeper (envOfC qual scope s.heap.objs.size f cdv)) (envOfC qual scope s.heap.objs.size f cdv) (cxOf (CXn P w) P w K mg base N qual scope f cdv A outer s H E).xe →
      SSs (cxOf (CXn P w) P w K mg base N qual scope f cdv A outer s H E) (WxE E) body b) :
    FnG P w K mg base (CXn P w) (k + 1) f fd ps (spM K mg n (fnM n m b)) := by
  subst hn hm
  refine fnG_of F S (fun vs H Q E h => h.1) (fun cdv A outer s H vs Q E hr h => ?_)
  have X0 : Takes (cxOf (CXn P w) P w K mg base N qual scope f cdv A outer s H E) (WxE E) := takes_of rfl rfl rfl rfl
  have X1 : PassesOwn (model P w) (A.deeper (envOfC qual scope s.heap.objs.size f cdv)) (envOfC qual scope s.heap.objs.size f cdv) (cxOf (CXn P w) P w K mg base N qual scope f cdv A outer s H E).xe := by
    unfold cxOf
    exact PassesOwn.leaving
  refine ⟨_, hb cdv A outer s H E hr X0 X1, ?_⟩
  obtain ⟨hl, ρ, μ, ds, w', r, p⟩ := h
  refine ⟨ρ, μ, _, w', r.map_env N ps.length hl.symm, ?_⟩
  have hd : ds.length = ps.length := by rw [← r.length, hl]
  unfold fnM at p
  rw [if_pos hd] at p
  cases h : b (ds.map some ++ List.replicate (N.length - ps.length) none) μ with
  | nx e m => rw [h] at p; exact fun σ' H' ρ' e w _ => p .non H' ρ' e w .non
  | rt d m => rw [h] at p; exact fun v H' ρ' e w r => p v H' ρ' e w r
  | bk e m => rw [h] at p; exact False.elim p
  | ct e m => rw [h] at p; exact False.elim p
  | ex c x e m => rw [h] at p; exact fun cls od σ' H' ρ' e w _ r => p cls od H' ρ' e w r
  | no => rw [h] at p; exact p
theorem fnM_len {n N : Nat} {b : MS} {ds : List D} {μ : Mem} (h : fnM n N b ds μ ≠ .no) : ds.length = n := by
  apply Classical.byContradiction
  intro z
  unfold fnM at h
  rw [if_neg z] at h
  exact h rfl
/-- which lists of arguments a mirror takes -/
def Ar (n : Nat) (f : List D → M D) : Prop := ∀ ds μ, f ds μ ≠ .no → ds.length = n
theorem ar_fnM {n N : Nat} {b : MS} : Ar n (fnM n N b) := fun _ _ h => fnM_len h
theorem Post.ne {K : PySem.W.Frag} {mg : Str → Option Value} {r : Rs D} {H : Hp} {ρ : Lc} {μ : Mem} {Q : VK} {E : XK} (p : Post K mg r H ρ μ Q E) : r ≠ .no := fun e => by
  rw [e] at p
  exact p
section
variable {X : Cx} {W : WX} {e : Expr} {es : List Expr} {p pos : Pos} {x : Str} {k n : Nat} {f : Addr} {fd : FuncData} {ps : List Str} {g : List D → M D} {ml : ML}
theorem spM_of {K : PySem.W.Frag} {mg : Str → Option Value} {n : Nat} {g : List D → M D} (ar : Ar n g) {H : Hp} {ρ : Lc} {μ : Mem} {vs : List V} {ds : List D} {Q : VK} {E : XK} (w : Wd K mg H ρ μ) (r : RLm K mg H ρ μ vs ds) (p : Post K mg (g ds μ) H ρ μ Q E) : spM K mg n g vs H Q E :=
  ⟨by rw [r.length]; exact ar ds μ p.ne, ρ, μ, ds, w, r, p⟩
theorem takesAt (tk : Takes X W) (σ : L2.St) : PassesAt (CXn X.prog X.w) X σ (WE W σ) := passAt tk σ
end
end CL

namespace CL
open PySem L2 PySem.Spec PyProof.Rows

mutual
def D.dec : (a b : D) → Decidable (a = b)
  | .non, .non => .isTrue rfl
  | .bl a, .bl b => if h : a = b then .isTrue (by rw [h]) else .isFalse fun e => h (D.bl.inj e)
  | .int a, .int b => if h : a = b then .isTrue (by rw [h]) else .isFalse fun e => h (D.int.inj e)
  | .str a, .str b => if h : a = b then .isTrue (by rw [h]) else .isFalse fun e => h (D.str.inj e)
  | .lst a, .lst b => match D.decL a b with
    | .isTrue h => .isTrue (by rw [h])
    | .isFalse h => .isFalse fun e => h (D.lst.inj e)
  | .tup a, .tup b => match D.decL a b with
    | .isTrue h => .isTrue (by rw [h])
    | .isFalse h => .isFalse fun e => h (D.tup.inj e)
  | .dct c a, .dct d b => if h : c = d then (match D.decK a b with
    | .isTrue h2 => .isTrue (by rw [h, h2])
    | .isFalse h2 => .isFalse fun e => h2 (D.dct.inj e).2) else .isFalse fun e => h (D.dct.inj e).1
  | .ins c a, .ins d b => if h : c = d then (match D.decF a b with
    | .isTrue h2 => .isTrue (by rw [h, h2])
    | .isFalse h2 => .isFalse fun e => h2 (D.ins.inj e).2) else .isFalse fun e => h (D.ins.inj e).1
  | .cel a, .cel b => if h : a = b then .isTrue (by rw [h]) else .isFalse fun e => h (D.cel.inj e)
  | .ty a, .ty b => if h : a = b then .isTrue (by rw [h]) else .isFalse fun e => h (D.ty.inj e)
  | .exc c a, .exc d b => if h : c = d then (match D.decF a b with
    | .isTrue h2 => .isTrue (by rw [h, h2])
    | .isFalse h2 => .isFalse fun e => h2 (D.exc.inj e).2) else .isFalse fun e => h (D.exc.inj e).1
  | .non, .bl _ | .non, .int _ | .non, .str _ | .non, .lst _ | .non, .tup _ | .non, .dct _ _ | .non, .ins _ _ | .non, .cel _ | .non, .ty _ | .non, .exc _ _ => .isFalse fun e => nomatch e
  | .bl _, .non | .bl _, .int _ | .bl _, .str _ | .bl _, .lst _ | .bl _, .tup _ | .bl _, .dct _ _ | .bl _, .ins _ _ | .bl _, .cel _ | .bl _, .ty _ | .bl _, .exc _ _ => .isFalse fun e => nomatch e
  | .int _, .non | .int _, .bl _ | .int _, .str _ | .int _, .lst _ | .int _, .tup _ | .int _, .dct _ _ | .int _, .ins _ _ | .int _, .cel _ | .int _, .ty _ | .int _, .exc _ _ => .isFalse fun e => nomatch e
  | .str _, .non | .str _, .bl _ | .str _, .int _ | .str _, .lst _ | .str _, .tup _ | .str _, .dct _ _ | .str _, .ins _ _ | .str _, .cel _ | .str _, .ty _ | .str _, .exc _ _ => .isFalse fun e => nomatch e
  | .lst _, .non | .lst _, .bl _ | .lst _, .int _ | .lst _, .str _ | .lst _, .tup _ | .lst _, .dct _ _ | .lst _, .ins _ _ | .lst _, .cel _ | .lst _, .ty _ | .lst _, .exc _ _ => .isFalse fun e => nomatch e
  | .tup _, .non | .tup _, .bl _ | .tup _, .int _ | .tup _, .str _ | .tup _, .lst _ | .tup _, .dct _ _ | .tup _, .ins _ _ | .tup _, .cel _ | .tup _, .ty _ | .tup _, .exc _ _ => .isFalse fun e => nomatch e
  | .dct _ _, .non | .dct _ _, .bl _ | .dct _ _, .int _ | .dct _ _, .str _ | .dct _ _, .lst _ | .dct _ _, .tup _ | .dct _ _, .ins _ _ | .dct _ _, .cel _ | .dct _ _, .ty _ | .dct _ _, .exc _ _ => .isFalse fun e => nomatch e
  | .ins _ _, .non | .ins _ _, .bl _ | .ins _ _, .int _ | .ins _ _, .str _ | .ins _ _, .lst _ | .ins _ _, .tup _ | .ins _ _, .dct _ _ | .ins _ _, .cel _ | .ins _ _, .ty _ | .ins _ _, .exc _ _ => .isFalse fun e => nomatch e
  | .cel _, .non | .cel _, .bl _ | .cel _, .int _ | .cel _, .str _ | .cel _, .lst _ | .cel _, .tup _ | .cel _, .dct _ _ | .cel _, .ins _ _ | .cel _, .ty _ | .cel _, .exc _ _ => .isFalse fun e => nomatch e
  | .ty _, .non | .ty _, .bl _ | .ty _, .int _ | .ty _, .str _ | .ty _, .lst _ | .ty _, .tup _ | .ty _, .dct _ _ | .ty _, .ins _ _ | .ty _, .cel _ | .ty _, .exc _ _ => .isFalse fun e => nomatch e
  | .exc _ _, .non | .exc _ _, .bl _ | .exc _ _, .int _ | .exc _ _, .str _ | .exc _ _, .lst _ | .exc _ _, .tup _ | .exc _ _, .dct _ _ | .exc _ _, .ins _ _ | .exc _ _, .cel _ | .exc _ _, .ty _ => .isFalse fun e => nomatch e
def D.decL : (a b : List D) → Decidable (a = b)
  | [], [] => .isTrue rfl
  | [], _ :: _ => .isFalse fun e => nomatch e
  | _ :: _, [] => .isFalse fun e => nomatch e
  | x :: a, y :: b => match D.dec x y, D.decL a b with
    | .isTrue h, .isTrue h2 => .isTrue (by rw [h, h2])
    | .isFalse h, _ => .isFalse fun e => h (List.cons.inj e).1
    | _, .isFalse h => .isFalse fun e => h (List.cons.inj e).2
def D.decK : (a b : List (D × D)) → Decidable (a = b)
  | [], [] => .isTrue rfl
  | [], _ :: _ => .isFalse fun e => nomatch e
  | _ :: _, [] => .isFalse fun e => nomatch e
  | (x, u) :: a, (y, v) :: b => match D.dec x y, D.dec u v, D.decK a b with
    | .isTrue h, .isTrue h1, .isTrue h2 => .isTrue (by rw [h, h1, h2])
    | .isFalse h, _, _ => .isFalse fun e => h (Prod.mk.inj (List.cons.inj e).1).1
    | _, .isFalse h, _ => .isFalse fun e => h (Prod.mk.inj (List.cons.inj e).1).2
    | _, _, .isFalse h => .isFalse fun e => h (List.cons.inj e).2
def D.decF : (a b : List (Str × D)) → Decidable (a = b)
  | [], [] => .isTrue rfl
  | [], _ :: _ => .isFalse fun e => nomatch e
  | _ :: _, [] => .isFalse fun e => nomatch e
  | (x, u) :: a, (y, v) :: b => if h : x = y then (match D.dec u v, D.decF a b with
    | .isTrue h1, .isTrue h2 => .isTrue (by rw [h, h1, h2])
    | .isFalse h, _ => .isFalse fun e => h (Prod.mk.inj (List.cons.inj e).1).2
    | _, .isFalse h => .isFalse fun e => h (List.cons.inj e).2) else .isFalse fun e => h (Prod.mk.inj (List.cons.inj e).1).1
end
instance : DecidableEq D := D.dec

/-- the items; the mutable object (by number, with its content) that must not change meanwhile -/
structure Its where
  items : List D
  chk : Option (Nat × D)
def Its.ok (t : Its) (μ : Mem) : Bool := match t.chk with
  | none => true
  | some (i, d) => decide (μ[i]? = some (some d))
abbrev MI := CL.Env → M Its
/-- J walks the items in every later world in which what is walked is unchanged -/
structure WalkM (K : PySem.W.Frag) (mg : Str → Option Value) (J : It) (t : Its) (H : Hp) (ρ : Lc) (μ : Mem) : Prop where
  goes : ∀ (H' : Hp) (ρ' : Lc) (μ' : Mem) (i : Nat), Exx H (Live ρ μ) ρ.cs H' (Live ρ' μ') ρ'.cs → Wd K mg H' ρ' μ' → t.ok μ' = true → i < t.items.length → J.go i H'
  stops : ∀ (H' : Hp) (ρ' : Lc) (μ' : Mem), Exx H (Live ρ μ) ρ.cs H' (Live ρ' μ') ρ'.cs → Wd K mg H' ρ' μ' → t.ok μ' = true → J.stop t.items.length H'
  yields : ∀ (H' : Hp) (ρ' : Lc) (μ' : Mem) (i : Nat) (x : V) (H2 : Hp) (d : D), Exx H (Live ρ μ) ρ.cs H' (Live ρ' μ') ρ'.cs → Wd K mg H' ρ' μ' → t.ok μ' = true → t.items[i]? = some d → J.yld i H' x H2 →
    Exm H' ρ' μ' H2 ρ' μ' ∧ Wd K mg H2 ρ' μ' ∧ Rm K mg H2 ρ' μ' x d
def PostI (K : PySem.W.Frag) (mg : Str → Option Value) (r : Rs Its) (H : Hp) (ρ : Lc) (μ : Mem) (Q : It → Hp → Prop) (E : XK) : Prop :=
  match r with
  | .ok t μ' => ∀ J H' ρ', Exm H ρ μ H' ρ' μ' → Wd K mg H' ρ' μ' → WalkM K mg J t H' ρ' μ' → Q J H'
  | .ex c x μ' => ∀ cls od H' ρ', Exm H ρ μ H' ρ' μ' → Wd K mg H' ρ' μ' → ExAt K mg H' ρ' μ' c x cls od → E cls od H'
  | .no => False
def tMI (K : PySem.W.Frag) (mg : Str → Option Value) (W : WX) (m : MI) : TI := fun σ H R => ∃ ρ μ env, Wd K mg H ρ μ ∧ REnv K mg H ρ μ σ env ∧ PostI K mg (m env μ) H ρ μ R (fun c od H' => W c od σ H')
abbrev SI (X : Cx) (W : WX) (tg iter : Expr) (m : MI) : Prop := PI X tg iter (tMI X.K X.mg W m)
theorem PI.imp {X : Cx} {tg e : Expr} {t t' : TI} (h : PI X tg e t) (i : ∀ σ H R, t' σ H R → t σ H R) : PI X tg e t' := ⟨fun pins s σ H R I q => h.run pins s σ H R I (i σ H R q)⟩

section
variable {K : PySem.W.Frag} {mg : Str → Option Value} {H H1 : Hp} {ρ ρ1 : Lc} {μ μ1 : Mem} {E : XK}
theorem PostI.base {r : Rs Its} {Q : It → Hp → Prop} (e : Exm H ρ μ H1 ρ1 μ1) (p : PostI K mg r H ρ μ Q E) : PostI K mg r H1 ρ1 μ1 Q E := by
  cases r with
  | ok d μ' => exact fun J H' ρ' e' => p J H' ρ' (e.trans e')
  | ex c x μ' => exact fun cls od H' ρ' e' => p cls od H' ρ' (e.trans e')
  | no => exact p
theorem post_bindI {r : Rs D} {k : D → M Its} {Q : It → Hp → Prop} (p : PostI K mg (r.bind k) H ρ μ Q E) :
    Post K mg r H ρ μ (fun v H1 => ∃ d ρ1 μ1, Exm H ρ μ H1 ρ1 μ1 ∧ Wd K mg H1 ρ1 μ1 ∧ Rm K mg H1 ρ1 μ1 v d ∧ PostI K mg (k d μ1) H1 ρ1 μ1 Q E) E := by
  cases r with
  | ok d μ' => exact fun v H' ρ' e w r => ⟨d, ρ', μ', e, w, r, PostI.base e p⟩
  | ex c x μ' => exact p
  | no => exact p
theorem postL_bindI {r : Rs (List D)} {k : List D → M Its} {Q : It → Hp → Prop} (p : PostI K mg (r.bind k) H ρ μ Q E) :
    PostL K mg r H ρ μ (fun v H1 => ∃ d ρ1 μ1, Exm H ρ μ H1 ρ1 μ1 ∧ Wd K mg H1 ρ1 μ1 ∧ RLm K mg H1 ρ1 μ1 v d ∧ PostI K mg (k d μ1) H1 ρ1 μ1 Q E) E := by
  cases r with
  | ok d μ' => exact fun v H' ρ' e w r => ⟨d, ρ', μ', e, w, r, PostI.base e p⟩
  | ex c x μ' => exact p
  | no => exact p
theorem Live.cell (w : Wd K mg H ρ μ) {i : Nat} {a : Addr} {d : D} (h : ρ.cs[i]? = some a) (hm : μ[i]? = some (some d)) : Live ρ μ a := .inr ⟨i, d, h, hm⟩
/-- a list as data: frozen, or a cell's -/
def asLst : D → M Its
  | .lst ds, μ => .ok ⟨ds, none⟩ μ
  | .cel i, μ => match μ[i]? with
    | some (some (.lst ds)) => .ok ⟨ds, some (i, .lst ds)⟩ μ
    | _ => .no
  | _, _ => .no
/-- a list stands at a, its items worth ds, while what is told is unchanged -/
theorem asLst_ok {v : V} {d : D} {t : Its} {μ' : Mem} (w : Wd K mg H ρ μ) (r : Rm K mg H ρ μ v d) (h : asLst d μ = .ok t μ') :
    μ' = μ ∧ ∃ a vs, v = .ref a ∧ SqL K H a vs ∧ RLm K mg H ρ μ vs t.items ∧ ∀ (H' : Hp) (ρ' : Lc) (μ2 : Mem), Exx H (Live ρ μ) ρ.cs H' (Live ρ' μ2) ρ'.cs → Wd K mg H' ρ' μ2 → t.ok μ2 = true → ∃ ws, SqL K H' a ws ∧ RLm K mg H' ρ' μ2 ws t.items := by
  cases r with
  | lst f rl =>
    have e : Rs.ok _ μ = Rs.ok t μ' := h
    injection e with e1 e2
    subst e1 e2
    exact ⟨rfl, _, _, rfl, f.sq, rl, fun H' ρ' μ2 e w' _ => ⟨_, (f.mono e).sq, rl.mono e⟩⟩
  | cel hc =>
    rename_i a i
    have h1 : (match μ[i]? with
      | some (some (.lst ds)) => Rs.ok (⟨ds, some (i, .lst ds)⟩ : Its) μ
      | _ => .no) = Rs.ok t μ' := h
    cases hm : μ[i]? with
    | none => rw [hm] at h1; exact nomatch h1
    | some o =>
      rw [hm] at h1
      cases o with
      | none => exact nomatch h1
      | some d =>
        cases d with
        | lst ds =>
          have e : Rs.ok (⟨ds, some (i, .lst ds)⟩ : Its) μ = Rs.ok t μ' := h1
          injection e with e1 e2
          subst e1 e2
          obtain ⟨vs, h2, h3⟩ := w.cell i _ a hm hc
          refine ⟨rfl, a, vs, rfl, .inl (.inl h2), h3, fun H' ρ' μ2 e w' ho => ?_⟩
          have hm2 : μ2[i]? = some (some (.lst ds)) := of_decide_eq_true ho
          obtain ⟨ws, h4, h5⟩ := w'.cell i _ a hm2 (e.pre i a hc)
          exact ⟨ws, .inl (.inl h4), h5⟩
        | _ => exact nomatch h1
  | _ => exact nomatch (show (Rs.no : Rs Its) = _ from h)
theorem asLst_ne {d : D} {μ : Mem} {c : Str} {x : D} {μ' : Mem} : asLst d μ ≠ .ex c x μ' := by
  intro h
  unfold asLst at h
  split at h
  · exact nomatch h
  · split at h <;> exact nomatch h
  · exact nomatch h
theorem PostI.ok {t : Its} {J : It} {Q : It → Hp → Prop} (w : Wd K mg H ρ μ) (p : PostI K mg (.ok t μ) H ρ μ Q E) (r : WalkM K mg J t H ρ μ) : Q J H := p J H ρ Exm.refl w r
theorem walkM_list {a : Addr} {t : Its} (hs : ∀ (H' : Hp) (ρ' : Lc) (μ2 : Mem), Exx H (Live ρ μ) ρ.cs H' (Live ρ' μ2) ρ'.cs → Wd K mg H' ρ' μ2 → t.ok μ2 = true → ∃ ws, SqL K H' a ws ∧ RLm K mg H' ρ' μ2 ws t.items) : WalkM K mg (Itl K a) t H ρ μ where
  goes := fun H' ρ' μ' i e w ho hi => by
    obtain ⟨ws, h1, h2⟩ := hs H' ρ' μ' e w ho
    have hl := h2.length
    exact ⟨ws, ws[i]'(by omega), h1, by simp [show i < ws.length by omega]⟩
  stops := fun H' ρ' μ' e w ho => by
    obtain ⟨ws, h1, h2⟩ := hs H' ρ' μ' e w ho
    exact ⟨ws, h1, by rw [h2.length]; exact Nat.le_refl _⟩
  yields := fun H' ρ' μ' i x H2 d e w ho hi y => by
    obtain ⟨ws, h1, h2⟩ := hs H' ρ' μ' e w ho
    obtain ⟨y1, y2⟩ := y
    obtain ⟨v, h3, h4⟩ := h2.get hi
    have e1 := (y2 ws h1).symm.trans h3
    have e2 := Option.some.inj e1
    subst e2 y1
    exact ⟨Exm.refl, w, h4⟩
/-- for x in a list -/
def iLst (a : ME) : MI := fun env μ => (a env μ).bind asLst
theorem si_list {X : Cx} {W : WX} {tg l : Expr} {ml : ME} (hl : SE X W l ml) : SI X W tg l (iLst ml) := by
  refine PI.imp (pi_list hl) fun σ H R ⟨ρ, μ, env, w, re, p⟩ => ?_
  refine ⟨ρ, μ, env, w, re, Post.imp (post_bindI p) (fun v H1 ⟨d, ρ1, μ1, e1, w1, r1, p1⟩ => ?_) fun _ _ _ z => z⟩
  cases h : asLst d μ1 with
  | no => rw [h] at p1; exact False.elim p1
  | ex c x m => exact absurd h asLst_ne
  | ok t m =>
    obtain ⟨e, a, vs, ev, hs, hr, hw⟩ := asLst_ok w1 r1 h
    subst e ev
    rw [h] at p1
    exact ⟨a, rfl, ⟨vs, hs⟩, PostI.ok w1 p1 (walkM_list hw)⟩
/-- for x in a tuple -/
def asTup : D → M Its
  | .tup ds, μ => .ok ⟨ds, none⟩ μ
  | _, _ => .no
theorem walkM_tup {a : Addr} {t : Its} (hs : ∀ (H' : Hp) (ρ' : Lc) (μ2 : Mem), Exx H (Live ρ μ) ρ.cs H' (Live ρ' μ2) ρ'.cs → ∃ ws, SqT K H' a ws ∧ RLm K mg H' ρ' μ2 ws t.items) : WalkM K mg (Itt K a) t H ρ μ where
  goes := fun H' ρ' μ' i e w ho hi => by
    obtain ⟨ws, h1, h2⟩ := hs H' ρ' μ' e
    have hl := h2.length
    exact ⟨ws, ws[i]'(by omega), h1, by simp [show i < ws.length by omega]⟩
  stops := fun H' ρ' μ' e w ho => by
    obtain ⟨ws, h1, h2⟩ := hs H' ρ' μ' e
    exact ⟨ws, h1, by rw [h2.length]; exact Nat.le_refl _⟩
  yields := fun H' ρ' μ' i x H2 d e w ho hi y => by
    obtain ⟨ws, h1, h2⟩ := hs H' ρ' μ' e
    obtain ⟨y1, y2⟩ := y
    obtain ⟨v, h3, h4⟩ := h2.get hi
    have e1 := (y2 ws h1).symm.trans h3
    have e2 := Option.some.inj e1
    subst e2 y1
    exact ⟨Exm.refl, w, h4⟩
def iTupM (a : ME) : MI := fun env μ => (a env μ).bind asTup
theorem si_tup {X : Cx} {W : WX} {tg l : Expr} {ml : ME} (hl : SE X W l ml) : SI X W tg l (iTupM ml) := by
  refine PI.imp (pi_tup hl) fun σ H R ⟨ρ, μ, env, w, re, p⟩ => ?_
  refine ⟨ρ, μ, env, w, re, Post.imp (post_bindI p) (fun v H1 ⟨d, ρ1, μ1, e1, w1, r1, p1⟩ => ?_) fun _ _ _ z => z⟩
  cases r1 with
  | tup f rl => exact ⟨_, rfl, ⟨_, f.sq⟩, PostI.ok w1 p1 (walkM_tup fun H' ρ' μ2 e => ⟨_, (f.mono e).sq, rl.mono e⟩)⟩
  | _ => exact False.elim p1
/-- for c in a text -/
def signs (x : Str) : List D := x.cps.toList.map fun c => .str ⟨#[c]⟩
def asStr : D → M Its
  | .str x, μ => .ok ⟨signs x, none⟩ μ
  | _, _ => .no
def iStrM (a : ME) : MI := fun env μ => (a env μ).bind asStr
theorem si_str {X : Cx} {W : WX} {tg l : Expr} {ml : ME} (hl : SE X W l ml) : SI X W tg l (iStrM ml) := by
  refine PI.imp (pi_str hl) fun σ H R ⟨ρ, μ, env, w, re, p⟩ => ?_
  refine ⟨ρ, μ, env, w, re, Post.imp (post_bindI p) (fun v H1 ⟨d, ρ1, μ1, e1, w1, r1, p1⟩ => ?_) fun _ _ _ z => z⟩
  cases r1 with
  | str x =>
    refine ⟨x, rfl, PostI.ok w1 p1 ⟨fun H' ρ' μ' i e w ho hi => ?_, fun H' ρ' μ' e w ho => ?_, fun H' ρ' μ' i y H2 d e w ho hi hy => ?_⟩⟩
    · have : i < x.cps.size := by simpa [signs] using hi
      exact this
    · show x.cps.size ≤ _
      simp [signs]
    · obtain ⟨h1, c, h2, h3⟩ := hy
      subst h1 h3
      have e1 : (signs x)[i]? = some (D.str ⟨#[c]⟩) := by
        unfold signs
        rw [List.getElem?_map, Array.getElem?_toList, h2]
        rfl
      have e2 := Option.some.inj (e1.symm.trans hi)
      subst e2
      exact ⟨Exm.refl, w, .str _⟩
  | _ => exact False.elim p1
/-- for i in range(..) -/
def rangeL (lo hi : Int) : List D := (List.range (hi - lo).toNat).map fun i => .int (lo + (i : Nat))
def big62 (i : Int) : Bool := decide (-(2 ^ 62) ≤ i ∧ i < 2 ^ 62)
def asRange1 : List D → M Its
  | [.int n], μ => if big62 n then .ok ⟨rangeL 0 n, none⟩ μ else .no
  | _, _ => .no
def asRange2 : List D → M Its
  | [.int a, .int b], μ => if big62 a && big62 b then .ok ⟨rangeL a b, none⟩ μ else .no
  | _, _ => .no
def iRng1 (a : ML) : MI := fun env μ => (a env μ).bind asRange1
def iRng2 (a : ML) : MI := fun env μ => (a env μ).bind asRange2
theorem walkM_range {lo hi : Int} : WalkM K mg (Itr lo (hi - lo).toNat) ⟨rangeL lo hi, none⟩ H ρ μ where
  goes := fun H' ρ' μ' i e w ho hi' => by
    have h : i < (rangeL lo hi).length := hi'
    unfold rangeL at h
    rw [List.length_map, List.length_range] at h
    exact h
  stops := fun H' ρ' μ' e w ho => by
    show _ ≤ _
    simp [rangeL]
  yields := fun H' ρ' μ' i x H2 d e w ho hi' y => by
    obtain ⟨y1, y2⟩ := y
    subst y1 y2
    have hi2 : (rangeL lo hi)[i]? = some d := hi'
    unfold rangeL at hi2
    rw [List.getElem?_map] at hi2
    cases hr : (List.range (hi - lo).toNat)[i]? with
    | none => rw [hr] at hi2; exact nomatch hi2
    | some j =>
      have ej : i = j := by
        have := List.getElem?_eq_some_iff.mp hr
        obtain ⟨hl, e⟩ := this
        simpa using e
      rw [hr] at hi2
      subst ej
      have e2 := Option.some.inj hi2
      subst e2
      exact ⟨Exm.refl, w, .int _⟩
end
end CL

namespace CL
open PySem L2 PySem.Spec PyProof.Rows
section
variable {K : PySem.W.Frag} {mg : Str → Option Value} {H H1 : Hp} {ρ ρ1 : Lc} {μ μ1 : Mem} {E : XK} {p : Addr} {o : HO}
theorem Wd.fresh (w : Wd K mg H ρ μ) (h : H p = none) : ¬ Live ρ μ p := by
  rintro (z | ⟨i, d, z, _⟩)
  · obtain ⟨⟨o, e⟩, _⟩ := w.hid p z
    rw [h] at e
    cases e
  · obtain ⟨o, e⟩ := w.trk p (List.mem_of_getElem? z)
    rw [h] at e
    cases e
theorem Exx.new {Lv : Addr → Prop} {cs : List Addr} (h : H p = none) : Exx H Lv cs (upd H p o) Lv cs :=
  ⟨fun a u e _ => .inl (by rw [upd_ne (ne_of_none e h)]; exact e), fun _ _ _ z => z, fun _ _ z => z⟩
theorem Exm.new (w : Wd K mg H ρ μ) (h : H p = none) : Exm H ρ μ (upd H p o) ρ μ :=
  ⟨Exx.new h, rfl, fun a ha => by
    obtain ⟨⟨u, e⟩, _⟩ := w.hid a ha
    exact upd_ne (ne_of_none e h)⟩
/-- the cells are untouched -/
theorem Wd.keep (w : Wd K mg H ρ μ) (e : Exx H (Live ρ μ) ρ.cs H1 (Live ρ μ) ρ.cs) (k : ∀ a, Live ρ μ a → H1 a = H a) : Wd K mg H1 ρ μ where
  len := w.len
  nd := w.nd
  trk := fun a ha => by
    obtain ⟨u, hu⟩ := w.trk a ha
    by_cases l : Live ρ μ a
    · exact ⟨u, (k a l).trans hu⟩
    · rcases e.keep a u hu l with k | ⟨_, od, k⟩
      · exact ⟨_, k⟩
      · exact ⟨_, k⟩
  hid := fun a ha => by
    obtain ⟨⟨u, hu⟩, h2⟩ := w.hid a ha
    exact ⟨⟨u, (k a (.inl ha)).trans hu⟩, h2⟩
  cell := fun i d a h1 h2 => (w.cell i d a h1 h2).mono e (k a (.inr ⟨i, d, h2, h1⟩))
theorem Wd.new (w : Wd K mg H ρ μ) (h : H p = none) : Wd K mg (upd H p o) ρ μ :=
  w.keep (Exx.new h) fun a l => upd_ne fun z => w.fresh h (z ▸ l)
theorem Rm.newT (w : Wd K mg H ρ μ) (h : H p = none) {vs : List V} {ds : List D} (r : RLm K mg H ρ μ vs ds) : Rm K mg (upd H p (.tup vs)) ρ μ (.ref p) (.tup ds) :=
  .tup (.inl ⟨upd_same, w.fresh h⟩) (r.mono (Exx.new h))
theorem Rm.newL (w : Wd K mg H ρ μ) (h : H p = none) {vs : List V} {ds : List D} (r : RLm K mg H ρ μ vs ds) : Rm K mg (upd H p (.lst vs)) ρ μ (.ref p) (.lst ds) :=
  .lst ⟨.inl upd_same, w.fresh h⟩ (r.mono (Exx.new h))
/-- a new mutable object -/
abbrev Lc.push (ρ : Lc) (p : Addr) : Lc := ⟨ρ.cs ++ [p], ρ.hid⟩
theorem Live.push (w : Wd K mg H ρ μ) {d : D} {a : Addr} (l : Live (ρ.push p) (μ ++ [some d]) a) : a = p ∨ Live ρ μ a := by
  rcases l with l | ⟨i, e, h1, h2⟩
  · exact .inr (.inl l)
  · by_cases hi : i < ρ.cs.length
    · rw [List.getElem?_append_left hi] at h1
      rw [List.getElem?_append_left (by rw [← w.len]; exact hi)] at h2
      exact .inr (.inr ⟨i, e, h1, h2⟩)
    · rw [List.getElem?_append_right (by omega)] at h1
      have : i - ρ.cs.length = 0 := by
        have := (List.getElem?_eq_some_iff.mp h1).1
        simp at this
        omega
      rw [this] at h1
      exact .inl (Option.some.inj h1).symm
theorem Exx.newC (w : Wd K mg H ρ μ) (h : H p = none) {d : D} : Exx H (Live ρ μ) ρ.cs (upd H p o) (Live (ρ.push p) (μ ++ [some d])) (ρ.push p).cs :=
  ⟨fun a u e _ => .inl (by rw [upd_ne (ne_of_none e h)]; exact e), fun a u e l => by
    rcases Live.push w l with z | z
    · exact absurd e (by rw [z, h]; exact fun q => nomatch q)
    · exact z, fun i a e => by
    have hl : i < ρ.cs.length := (List.getElem?_eq_some_iff.mp e).1
    show (ρ.cs ++ [p])[i]? = _
    rw [List.getElem?_append_left hl]
    exact e⟩
theorem Exm.newC (w : Wd K mg H ρ μ) (h : H p = none) {d : D} : Exm H ρ μ (upd H p o) (ρ.push p) (μ ++ [some d]) :=
  ⟨Exx.newC w h, rfl, fun a ha => by
    obtain ⟨⟨u, e⟩, _⟩ := w.hid a ha
    exact upd_ne (ne_of_none e h)⟩
theorem Wd.newC (w : Wd K mg H ρ μ) (h : H p = none) {d : D} (c : CellAt K mg (upd H p o) (Live (ρ.push p) (μ ++ [some d])) (ρ.push p).cs p d) : Wd K mg (upd H p o) (ρ.push p) (μ ++ [some d]) := by
  have np : p ∉ ρ.cs := fun z => by
    obtain ⟨u, e⟩ := w.trk p z
    rw [h] at e
    cases e
  refine ⟨by simp [w.len], ?_, fun a ha => ?_, fun a ha => ?_, fun i e a h1 h2 => ?_⟩
  · rw [List.nodup_append]
    exact ⟨w.nd, by simp, fun a ha b hb => by
      have : b = p := by simpa using hb
      rw [this]
      exact fun z => np (z ▸ ha)⟩
  · rcases List.mem_append.mp ha with ha | ha
    · obtain ⟨u, e⟩ := w.trk a ha
      exact ⟨u, by rw [upd_ne (ne_of_none e h)]; exact e⟩
    · have : a = p := by simpa using ha
      rw [this]
      exact ⟨_, upd_same⟩
  · obtain ⟨⟨u, e⟩, h2⟩ := w.hid a ha
    refine ⟨⟨u, by rw [upd_ne (ne_of_none e h)]; exact e⟩, fun z => ?_⟩
    rcases List.mem_append.mp z with z | z
    · exact h2 z
    · have : a = p := by simpa using z
      rw [this, h] at e
      cases e
  · by_cases hi : i < ρ.cs.length
    · have h2' : (ρ.cs ++ [p])[i]? = some a := h2
      rw [List.getElem?_append_left hi] at h2'
      rw [List.getElem?_append_left (by rw [← w.len]; exact hi)] at h1
      obtain ⟨u, eu⟩ := w.trk a (List.mem_of_getElem? h2')
      exact (w.cell i e a h1 h2').mono (Exx.newC w h) (upd_ne (ne_of_none eu h))
    · have h2' : (ρ.cs ++ [p])[i]? = some a := h2
      rw [List.getElem?_append_right (by omega)] at h2'
      have z : i - ρ.cs.length = 0 := by
        have := (List.getElem?_eq_some_iff.mp h2').1
        simp at this
        omega
      rw [z] at h2'
      rw [List.getElem?_append_right (by rw [← w.len]; omega)] at h1
      have z2 : i - μ.length = 0 := by rw [← w.len]; exact z
      rw [z2] at h1
      have e1 : p = a := Option.some.inj h2'
      have e2 : d = e := Option.some.inj (Option.some.inj h1)
      subst e1 e2
      exact c
theorem Rm.newC (w : Wd K mg H ρ μ) {d : D} {H' : Hp} : Rm K mg H' (ρ.push p) (μ ++ [some d]) (.ref p) (.cel μ.length) :=
  .cel (by rw [← w.len]; show (ρ.cs ++ [p])[ρ.cs.length]? = _; simp)
/-- a new mutable list -/
theorem Wd.newCL (w : Wd K mg H ρ μ) (h : H p = none) {vs : List V} {ds : List D} (r : RLm K mg H ρ μ vs ds) : Wd K mg (upd H p (.lst vs)) (ρ.push p) (μ ++ [some (.lst ds)]) :=
  w.newC h ⟨vs, upd_same, r.mono (Exx.newC w h)⟩

def lim : Nat := 1000000
theorem lim_line {n : Nat} (h : n ≤ lim) : n ≤ sizeLine := Nat.le_trans h (by rw [sizeLine_eq]; decide)
theorem lim_lt {n : Nat} (h : n ≤ lim) : n < sizeLine := Nat.lt_of_le_of_lt h (by rw [sizeLine_eq]; decide)
def mkTup (ds : List D) : M D := fun μ => if ds.length ≤ lim then .ok (.tup ds) μ else .no
def mkLst (ds : List D) : M D := fun μ => if ds.length ≤ lim then .ok (.lst ds) μ else .no
def mkCel (ds : List D) : M D := fun μ => if ds.length ≤ lim then .ok (.cel μ.length) (μ ++ [some (.lst ds)]) else .no
def mTup (a : ML) : ME := fun env μ => (a env μ).bind mkTup
def mLst (a : ML) : ME := fun env μ => (a env μ).bind mkLst
def mCel (a : ML) : ME := fun env μ => (a env μ).bind mkCel
variable {X : Cx} {W : WX} {es : List Expr} {pos : Pos} {ml : ML}
theorem post_newT {vs : List V} {ds : List D} {Q : VK} (w : Wd K mg H ρ μ) (r : RLm K mg H ρ μ vs ds) (pp : Post K mg (mkTup ds μ) H ρ μ Q E) : vs.length ≤ sizeLine ∧ ∀ p, H p = none → Q (.ref p) (upd H p (.tup vs)) := by
  unfold mkTup at pp
  split at pp
  · rename_i hl
    exact ⟨by rw [r.length]; exact lim_line hl, fun p hp => pp (.ref p) _ ρ (Exm.new w hp) (w.new hp) (Rm.newT w hp r)⟩
  · exact False.elim pp
theorem post_newL {vs : List V} {ds : List D} {Q : VK} (w : Wd K mg H ρ μ) (r : RLm K mg H ρ μ vs ds) (pp : Post K mg (mkLst ds μ) H ρ μ Q E) : vs.length ≤ sizeLine ∧ ∀ p, H p = none → Q (.ref p) (upd H p (.lst vs)) := by
  unfold mkLst at pp
  split at pp
  · rename_i hl
    exact ⟨by rw [r.length]; exact lim_line hl, fun p hp => pp (.ref p) _ ρ (Exm.new w hp) (w.new hp) (Rm.newL w hp r)⟩
  · exact False.elim pp
theorem post_newC {vs : List V} {ds : List D} {Q : VK} (w : Wd K mg H ρ μ) (r : RLm K mg H ρ μ vs ds) (pp : Post K mg (mkCel ds μ) H ρ μ Q E) : vs.length ≤ sizeLine ∧ ∀ p, H p = none → Q (.ref p) (upd H p (.lst vs)) := by
  unfold mkCel at pp
  split at pp
  · rename_i hl
    exact ⟨by rw [r.length]; exact lim_line hl, fun p hp => pp (.ref p) _ (ρ.push p) (Exm.newC w hp) (Wd.newCL w hp r) (Rm.newC w)⟩
  · exact False.elim pp
theorem se_tup {x1 : Nat} (h : SA X W es ml) : SE X W (.Tuple es x1 pos) (mTup ml) := by
  refine PE.imp (pe_tup h) fun σ H Q ⟨ρ, μ, env, w, re, p⟩ => ?_
  exact ⟨ρ, μ, env, w, re, PostL.imp (postL_bind p) (fun v H1 ⟨d, ρ1, μ1, e1, w1, r1, p1⟩ => post_newT w1 r1 p1) fun _ _ _ z => z⟩
theorem se_lst (h : SA X W es ml) : SE X W (.List es pos) (mLst ml) := by
  refine PE.imp (pe_lst h) fun σ H Q ⟨ρ, μ, env, w, re, p⟩ => ?_
  exact ⟨ρ, μ, env, w, re, PostL.imp (postL_bind p) (fun v H1 ⟨d, ρ1, μ1, e1, w1, r1, p1⟩ => post_newL w1 r1 p1) fun _ _ _ z => z⟩
theorem se_cel (h : SA X W es ml) : SE X W (.List es pos) (mCel ml) := by
  refine PE.imp (pe_lst h) fun σ H Q ⟨ρ, μ, env, w, re, p⟩ => ?_
  exact ⟨ρ, μ, env, w, re, PostL.imp (postL_bind p) (fun v H1 ⟨d, ρ1, μ1, e1, w1, r1, p1⟩ => post_newC w1 r1 p1) fun _ _ _ z => z⟩

theorem si_range1 {tg a : Expr} {p : Pos} (hm : X.mg "range" = none) (ha : SA X W [a] ml) (hg : Gl X "range" := by rfl) (hs : starEach [a] X.env = [(false, eval a X.env)] := by rfl) : SI X W tg (.Call (.Name "range" p) [a] [] pos) (CL.iRng1 ml) := by
  refine PI.imp (pi_range1 hg hm ha hs) fun σ H R ⟨ρ, μ, env, w, re, p⟩ => ?_
  refine ⟨ρ, μ, env, w, re, PostL.imp (postL_bindI p) (fun v H1 ⟨d, ρ1, μ1, e1, w1, r1, p1⟩ => ?_) fun _ _ _ z => z⟩
  cases r1 with
  | nil => exact False.elim p1
  | cons r t =>
    cases t with
    | nil =>
      cases r with
      | int n =>
        have p2 : PostI _ _ (if big62 n then Rs.ok (⟨rangeL 0 n, none⟩ : Its) μ1 else .no) H1 ρ1 μ1 R _ := p1
        by_cases h : big62 n = true
        · rw [if_pos h] at p2
          have h' := of_decide_eq_true h
          refine ⟨n, rfl, h'.1, h'.2, ?_⟩
          have e : n.toNat = (n - 0).toNat := by simp
          rw [e]
          exact PostI.ok w1 p2 walkM_range
        · rw [if_neg h] at p2; exact False.elim p2
      | _ => exact False.elim p1
    | cons _ _ => exact False.elim (by cases r <;> exact p1)
theorem si_range2 {tg a b : Expr} {p : Pos} (hm : X.mg "range" = none) (ha : SA X W [a, b] ml) (hg : Gl X "range" := by rfl) (hs : starEach [a, b] X.env = [(false, eval a X.env), (false, eval b X.env)] := by rfl) (hs2 : starEach [b] X.env = [(false, eval b X.env)] := by rfl) : SI X W tg (.Call (.Name "range" p) [a, b] [] pos) (CL.iRng2 ml) := by
  refine PI.imp (pi_range2 hg hm ha hs hs2) fun σ H R ⟨ρ, μ, env, w, re, p⟩ => ?_
  refine ⟨ρ, μ, env, w, re, PostL.imp (postL_bindI p) (fun v H1 ⟨d, ρ1, μ1, e1, w1, r1, p1⟩ => ?_) fun _ _ _ z => z⟩
  unfold asRange2 at p1
  split at p1
  · cases r1 with
    | cons r t =>
      cases t with
      | cons r2 t =>
        cases t
        cases r
        cases r2
        rename_i n m _
        split at p1
        · rename_i h
          obtain ⟨h1, h2⟩ := Bool.and_eq_true_iff.mp h
          have h1' := of_decide_eq_true h1
          have h2' := of_decide_eq_true h2
          exact ⟨n, m, rfl, ⟨h1'.1, h1'.2, h2'.1, h2'.2⟩, PostI.ok w1 p1 walkM_range⟩
        · exact False.elim p1
  · exact False.elim p1
end
end CL

namespace CL
open PySem L2 PySem.Spec PyProof.Rows
section
variable {K : PySem.W.Frag} {mg : Str → Option Value} {H H1 : Hp} {ρ ρ1 : Lc} {μ μ1 : Mem} {E : XK} {X : Cx} {W : WX} {es : List Expr} {pos : Pos} {ml : ML}
def enumL : List D → Nat → List D
  | [], _ => []
  | d :: ds, i => .tup [.int (i : Nat), d] :: enumL ds (i + 1)
theorem enumL_get : ∀ {ds : List D} {k i : Nat}, (enumL ds k)[i]? = ds[i]?.map fun d => D.tup [.int ((k + i : Nat) : Int), d]
  | [], k, i => by simp [enumL]
  | d :: ds, k, 0 => by simp [enumL]
  | d :: ds, k, i + 1 => by
    show (enumL ds (k + 1))[i]? = ds[i]?.map _
    rw [enumL_get (ds := ds)]
    have e : k + 1 + i = k + (i + 1) := by omega
    rw [e]
theorem enumL_len : ∀ {ds : List D} {k : Nat}, (enumL ds k).length = ds.length
  | [], _ => rfl
  | _ :: ds, k => congrArg (· + 1) (enumL_len (ds := ds) (k := k + 1))
def asEnum : List D → M Its
  | [d], μ => (asLst d μ).bind fun t m => .ok ⟨enumL t.items 0, t.chk⟩ m
  | _, _ => .no
def iEnumM (a : ML) : MI := fun env μ => (a env μ).bind asEnum
theorem si_enum {e : Expr} {p tpos : Pos} {elts : List Expr} {kk : Nat} (hm : X.mg "enumerate" = none) (ha : SA X W [e] ml) (hg : Gl X "enumerate" := by rfl) (hs : starEach [e] X.env = [(false, eval e X.env)] := by rfl) :
    SI X W (.Tuple elts kk tpos) (.Call (.Name "enumerate" p) [e] [] pos) (iEnumM ml) := by
  refine PI.imp (pi_enum hg hm ha hs) fun σ H R ⟨ρ, μ, env, w, re, p⟩ => ?_
  refine ⟨ρ, μ, env, w, re, PostL.imp (postL_bindI p) (fun v H1 ⟨d, ρ1, μ1, e1, w1, r1, p1⟩ => ?_) fun _ _ _ z => z⟩
  cases r1 with
  | nil => exact False.elim p1
  | @cons v0 d0 vs0 ds0 r t =>
    cases t with
    | cons _ _ => exact False.elim p1
    | nil =>
      have p2 : PostI _ _ ((asLst d0 μ1).bind fun t m => .ok ⟨enumL t.items 0, t.chk⟩ m) H1 ρ1 μ1 R _ := p1
      cases h : asLst d0 μ1 with
      | no => rw [h] at p2; exact False.elim p2
      | ex c x m => exact absurd h asLst_ne
      | ok t m =>
        obtain ⟨em, a, vs, ev, hs', hr, hw⟩ := asLst_ok w1 r h
        subst em ev
        rw [h] at p2
        refine ⟨a, vs, rfl, hs', PostI.ok w1 p2 ⟨fun H' ρ' μ' i e w ho hi => ?_, fun H' ρ' μ' e w ho => ?_, fun H' ρ' μ' i x H2 d e w ho hi y => ?_⟩⟩
        · obtain ⟨ws, h1, h2⟩ := hw H' ρ' μ' e w ho
          have hi' : i < (enumL t.items 0).length := hi
          rw [enumL_len, ← h2.length] at hi'
          exact ⟨ws, ws[i], h1, by simp [hi']⟩
        · obtain ⟨ws, h1, h2⟩ := hw H' ρ' μ' e w ho
          refine ⟨ws, h1, ?_⟩
          show _ ≤ (enumL t.items 0).length
          rw [enumL_len, h2.length]
          exact Nat.le_refl _
        · obtain ⟨ws, h1, h2⟩ := hw H' ρ' μ' e w ho
          obtain ⟨T, z, y1, y2, y3, y4⟩ := y
          have hi' : (enumL t.items 0)[i]? = some d := hi
          rw [enumL_get] at hi'
          cases hd : t.items[i]? with
          | none => rw [hd] at hi'; exact nomatch hi'
          | some d1 =>
            rw [hd] at hi'
            have e2 := Option.some.inj hi'
            subst e2 y1 y3
            obtain ⟨v1, h3, h4⟩ := h2.get hd
            have e3 := Option.some.inj ((y4 ws h1).symm.trans h3)
            subst e3
            refine ⟨Exm.new w y2, w.new y2, Rm.newT w y2 (.cons ?_ (.one h4))⟩
            rw [Nat.zero_add]
            exact .int _
/-- the turns of a for -/
def loopM (t : Its) (put : D → CL.Env → Option CL.Env) (body : MS) : List D → CL.Env → Mem → Sr
  | [], env, μ => if t.ok μ = true then .nx env μ else .no
  | d :: ds, env, μ => if t.ok μ = true then (match put d env with
    | none => .no
    | some env1 => match body env1 μ with
      | .nx e m => loopM t put body ds e m
      | .ct e m => loopM t put body ds e m
      | .bk e m => .nx e m
      | .rt d m => .rt d m
      | .ex c x e m => .ex c x e m
      | .no => .no) else .no
def sFor (mi : MI) (tg : Tgt) (body : MS) : MS := fun env μ => (mi env μ).st env fun t m => loopM t tg.put body t.items env m
theorem postI_st {σ : L2.St} {env : CL.Env} {Dn : Ends} {r : Rs Its} {k : Its → Mem → Sr} (re : REnv K mg H ρ μ σ env) (p : PostS K mg W (r.st env k) H ρ μ Dn) :
    PostI K mg r H ρ μ (fun J H1 => ∃ t ρ1 μ1, Exm H ρ μ H1 ρ1 μ1 ∧ Wd K mg H1 ρ1 μ1 ∧ REnv K mg H1 ρ1 μ1 σ env ∧ WalkM K mg J t H1 ρ1 μ1 ∧ PostS K mg W (k t μ1) H1 ρ1 μ1 Dn) (fun c od H' => W c od σ H') := by
  cases r with
  | ok d μ' => exact fun v H' ρ' e w r => ⟨d, ρ', μ', e, w, re.mono e, r, PostS.base e p⟩
  | ex c x μ' => exact fun cls od H' ρ' e w r => p cls od σ H' ρ' e w (re.mono e) r
  | no => exact p
theorem PostI.imp {r : Rs Its} {Q Q' : It → Hp → Prop} {E' : XK} (p : PostI K mg r H ρ μ Q E) (h : ∀ v H', Q v H' → Q' v H') (hE : ∀ c o H', E c o H' → E' c o H') : PostI K mg r H ρ μ Q' E' := by
  cases r with
  | ok d μ' => exact fun v H' ρ' e w r => h _ _ (p v H' ρ' e w r)
  | ex c x μ' => exact fun cls od H' ρ' e w r => hE _ _ _ (p cls od H' ρ' e w r)
  | no => exact p
theorem s_for {tg iter : Expr} {body : List Stmt} {mi : MI} {t : Tgt} {mb : MS} (hp : PassesOwn (model X.prog X.w) X.A X.env X.xe) (hc : X.calm = true) (hi : SI X W tg iter mi) (hg : SG X tg t) (hb : SSs X W body mb)
    (hs : ∀ x, foldedSetIterable iter X.env x = pure x := by intro _; rfl) : SS X W (.For tg iter body [] pos) (sFor mi t mb) := by
  refine PS.imp (ps_for hp hc hi hg hb hs) fun Dn σ H ⟨ρ, μ, env, w, re, p⟩ => ?_
  refine ⟨ρ, μ, env, w, re, PostI.imp (postI_st re p) (fun J H1 ⟨its, ρ1, μ1, e1, w1, re1, wk, p1⟩ => ?_) fun _ _ _ z => z⟩
  refine ⟨fun i m σ2 H2 => m = its.items.length - i ∧ i ≤ its.items.length ∧ ∃ ρ2 μ2 env2, Exm H1 ρ1 μ1 H2 ρ2 μ2 ∧ Wd X.K X.mg H2 ρ2 μ2 ∧ REnv X.K X.mg H2 ρ2 μ2 σ2 env2 ∧ PostS X.K X.mg W (loopM its t.put mb (its.items.drop i) env2 μ2) H2 ρ2 μ2 Dn,
    ⟨_, rfl, Nat.zero_le _, ρ1, μ1, env, Exm.refl, w1, re1, p1⟩, ?_⟩
  rintro i m σ2 H2 ⟨rfl, hi, ρ2, μ2, env2, e2, w2, re2, p2⟩
  by_cases hlt : i < its.items.length
  · have hd : its.items.drop i = its.items[i] :: its.items.drop (i + 1) := List.drop_eq_getElem_cons hlt
    rw [hd] at p2
    by_cases ho : its.ok μ2 = true
    · refine .inr ⟨wk.goes H2 ρ2 μ2 i e2.x w2 ho hlt, fun σ3 H3 => ∃ ρ3 μ3 env3, Exm H1 ρ1 μ1 H3 ρ3 μ3 ∧ Wd X.K X.mg H3 ρ3 μ3 ∧ REnv X.K X.mg H3 ρ3 μ3 σ3 env3 ∧ PostS X.K X.mg W (loopM its t.put mb (its.items.drop (i + 1)) env3 μ3) H3 ρ3 μ3 Dn, fun σ' H' q => ⟨its.items.length - (i + 1), by omega, rfl, hlt, q⟩, fun x H3 hy => ?_⟩
      obtain ⟨e3, w3, r3⟩ := wk.yields H2 ρ2 μ2 i x H3 its.items[i] e2.x w2 ho (by simp [hlt]) hy
      have p3 : PostS X.K X.mg W (match t.put its.items[i] env2 with
        | none => .no
        | some env1 => match mb env1 μ2 with
          | .nx e m => loopM its t.put mb (its.items.drop (i + 1)) e m
          | .ct e m => loopM its t.put mb (its.items.drop (i + 1)) e m
          | .bk e m => .nx e m
          | .rt d m => .rt d m
          | .ex c x e m => .ex c x e m
          | .no => .no) H2 ρ2 μ2 Dn := by
        have := p2
        unfold loopM at this
        rw [if_pos ho] at this
        exact this
      cases hput : t.put its.items[i] env2 with
      | none => rw [hput] at p3; exact False.elim p3
      | some env1 =>
        rw [hput] at p3
        refine ⟨ρ2, μ2, env2, env1, its.items[i], w3, re2.mono e3, r3, hput, fun σ4 re4 _ => ⟨ρ2, μ2, env1, w3, re4, ?_⟩⟩
        have p4 := PostS.base e3 p3
        dsimp only at p4
        cases hb : mb env1 μ2 with
        | nx e m => rw [hb] at p4; exact fun σ' H' ρ' ee ww rr => ⟨ρ', m, e, e2.trans (e3.trans ee), ww, rr, PostS.base ee p4⟩
        | ct e m => rw [hb] at p4; exact fun σ' H' ρ' ee ww rr => ⟨ρ', m, e, e2.trans (e3.trans ee), ww, rr, PostS.base ee p4⟩
        | bk e m => rw [hb] at p4; exact p4
        | rt d m => rw [hb] at p4; exact p4
        | ex c x e m => rw [hb] at p4; exact p4
        | no => rw [hb] at p4; exact p4
    · have := p2
      unfold loopM at this
      rw [if_neg ho] at this
      exact False.elim this
  · have e : i = its.items.length := by omega
    subst e
    rw [List.drop_length] at p2
    by_cases ho : its.ok μ2 = true
    · have := p2
      unfold loopM at this
      rw [if_pos ho] at this
      exact .inl ⟨wk.stops H2 ρ2 μ2 e2.x w2 ho, this σ2 H2 ρ2 Exm.refl w2 re2⟩
    · have := p2
      unfold loopM at this
      rw [if_neg ho] at this
      exact False.elim this

/-- a result that may not raise -/
def Rs.bindN {α β : Type} : Rs α → (α → M β) → Rs β
  | .ok a μ, k => k a μ
  | _, _ => .no
def wipeE (env : CL.Env) : List Nat → CL.Env
  | [] => env
  | v :: vs => (wipeE env vs).set v none
def compM (t : Its) (put : D → CL.Env → Option CL.Env) (tt : MB) (te : ME) (env : CL.Env) : List D → M (List D)
  | [], μ => if t.ok μ = true then .ok [] μ else .no
  | d :: ds, μ => if t.ok μ = true then (match put d env with
    | none => .no
    | some env1 => (tt env1 μ).bindN fun b μ1 => if b = true then (te env1 μ1).bindN fun x μ2 => (compM t put tt te env ds μ2).bindN fun xs μ3 => .ok (x :: xs) μ3
      else compM t put tt te env ds μ1) else .no
def bYes : MB := fun _ μ => .ok true μ
/-- [te for t in mi if tt], the block's own slots vs; k: what becomes of the items -/
def mComp (k : List D → M D) (mi : MI) (tg : Tgt) (tt : MB) (te : ME) (vs : List Nat) : ME := fun env μ => (mi env μ).bind fun t m => if t.items.length ≤ lim then (compM t tg.put tt te (wipeE env vs) t.items m).bindN k else .no
theorem REnv.wipe {σ : L2.St} {env : CL.Env} (r : REnv K mg H ρ μ σ env) : ∀ vs : List Nat, REnv K mg H ρ μ (L2.wipe σ vs) (wipeE env vs)
  | [] => r
  | v :: vs => by
    have ih := REnv.wipe r vs
    refine ⟨by unfold L2.wipe wipeE; simp [ih.len], fun i d h => ?_⟩
    unfold wipeE at h
    unfold L2.wipe
    by_cases hi : v = i
    · subst hi
      by_cases hv : v < (wipeE env vs).length
      · rw [List.getElem?_set_self hv] at h; exact nomatch h
      · rw [List.getElem?_eq_none (by simpa using hv)] at h; exact nomatch h
    · rw [List.getElem?_set_ne hi] at h ⊢
      exact ih.at_ i d h
theorem wipe_wipe {σ : L2.St} {vs : List Nat} : L2.wipe (L2.wipe σ vs) vs = L2.wipe σ vs := by
  apply List.ext_getElem?
  intro j
  rw [wipe_get, wipe_get]
  by_cases hj : j ∈ vs
  · simp only [hj, if_true]
    cases σ[j]? <;> rfl
  · simp only [hj, if_false]
abbrev W0 : WX := fun _ _ _ _ => False
/-- the test of a comprehension -/
abbrev STs (X : Cx) (W : WX) (ifs : List Expr) (m : MB) : Prop := PTs X ifs (tMB X.K X.mg W m)
theorem PTs.imp {e : List Expr} {t t' : TT} (h : PTs X e t) (i : ∀ σ H Q, t' σ H Q → t σ H Q) : PTs X e t' := ⟨fun pins s σ H Q I q => h.run pins s σ H Q I (i σ H Q q)⟩
theorem sts_nil : STs X W [] bYes := PTs.imp pts_nil fun σ H Q ⟨ρ, μ, env, w, re, p⟩ => p H ρ Exm.refl w
theorem sts_one {c : Expr} {m : MB} (h : ST X W c m) : STs X W [c] m := pts_one h
abbrev Bl (X : Cx) (s : Shared) (H : Hp) (scope : Scope) (cl : List (Str × Addr)) (C : Addr) (fp : List Addr) : Cx := X.blk s H scope (compEnvC scope cl C X.env) fp
theorem bindN_ne {α : Type} {r : Rs α} {k : α → M D} {Q : VK} (p : Post K mg (r.bindN k) H ρ μ Q E) : ∃ a m, r = .ok a m ∧ Post K mg (k a m) H ρ μ Q E := by
  cases r with
  | ok a m => exact ⟨a, m, rfl, p⟩
  | ex c x m => exact False.elim p
  | no => exact False.elim p
end
end CL

namespace CL
open PySem L2 PySem.Spec PyProof.Rows
section
variable {K : PySem.W.Frag} {mg : Str → Option Value} {H H1 : Hp} {ρ ρ1 : Lc} {μ μ1 : Mem} {E : XK} {X : Cx} {W : WX} {es : List Expr} {pos : Pos} {ml : ML}
/-- what the turns of a comprehension have to bring -/
theorem comp_core {wi : TI} {g : TG} {its : Its} {t : Tgt} {tt : MB} {te : ME} {vs : List Nat} {σ : L2.St} {env : CL.Env} {J : It} {Q : VK} {k : List D → M D} (hl : its.items.length ≤ lim) (ht : ∀ i ∈ t.slots, i ∈ vs)
    (w1 : Wd K mg H1 ρ1 μ1) (re1 : REnv K mg H1 ρ1 μ1 σ env) (wk : WalkM K mg J its H1 ρ1 μ1) {ys0 : List D} {m0 : Mem} (hr : compM its t.put tt te (wipeE env vs) its.items μ1 = .ok ys0 m0)
    (hk : ∀ (H2 : Hp) (ρ2 : Lc) (Dd : Addr) (acc : List V), Exx H1 (CL.Live ρ1 μ1) ρ1.cs H2 (CL.Live ρ2 m0) ρ2.cs → (∀ a ∈ ρ1.hid, H2 a = H1 a) → ρ2.hid = Dd :: ρ1.hid → Wd K mg H2 ρ2 m0 → H1 Dd = none → H2 Dd = some (.lst acc) → RLm K mg H2 ρ2 m0 acc ys0 → Q (.ref Dd) H2) (Dd : Addr) (hD : H1 Dd = none) :
    ∃ W : Nat → Nat → Hp → Prop, (∃ m, W 0 m (upd H1 Dd (.lst []))) ∧ ∀ i m H, W i m H →
      (J.stop i H ∧ Q (.ref Dd) H) ∨ (J.go i H ∧ ∃ Nx : Hp → Prop, (∀ H', Nx H' → ∃ m', m' < m ∧ W (i + 1) m' H') ∧ ∀ x H', J.yld i H x H' → gM K mg t x (L2.wipe σ vs) H' fun σ2 H2 => L2.wipe σ2 vs = L2.wipe σ vs ∧ tMB K mg W0 tt σ2 H2 fun b H3 =>
        if b = true then tM K mg W0 te σ2 H3 fun y H4 => ∃ acc, H4 Dd = some (.lst acc) ∧ acc.length < sizeLine ∧ Nx (upd H4 Dd (.lst (acc ++ [y]))) else Nx H3) := by
  -- the invariant
  let INV : Nat → Hp → Prop := fun i H => ∃ ρ μ acc ys, Exx H1 (CL.Live ρ1 μ1) ρ1.cs H (CL.Live ρ μ) ρ.cs ∧ (∀ a ∈ ρ1.hid, H a = H1 a) ∧ ρ.hid = Dd :: ρ1.hid ∧ Wd K mg H ρ μ ∧ H Dd = some (.lst acc) ∧ acc.length ≤ i ∧ RLm K mg H ρ μ acc ys ∧ REnv K mg H ρ μ (L2.wipe σ vs) (wipeE env vs) ∧
    ∃ zs m, compM its t.put tt te (wipeE env vs) (its.items.drop i) μ = .ok zs m ∧ ys0 = ys ++ zs ∧ m = m0
  refine ⟨fun i m H => m = its.items.length - i ∧ i ≤ its.items.length ∧ INV i H, ⟨_, rfl, Nat.zero_le _, ?_⟩, ?_⟩
  · -- the start
    have hlv : ∀ a, CL.Live ⟨ρ1.cs, Dd :: ρ1.hid⟩ μ1 a → a = Dd ∨ CL.Live ρ1 μ1 a := fun a l => by
      rcases l with l | l
      · rcases List.mem_cons.mp l with l | l
        · exact .inl l
        · exact .inr (.inl l)
      · exact .inr (.inr l)
    have ex : Exx H1 (CL.Live ρ1 μ1) ρ1.cs (upd H1 Dd (.lst [])) (CL.Live ⟨ρ1.cs, Dd :: ρ1.hid⟩ μ1) ρ1.cs :=
      ⟨fun a o e _ => .inl (by rw [upd_ne (ne_of_none e hD)]; exact e), fun a o e l => by
        rcases hlv a l with z | z
        · exact absurd e (by rw [z, hD]; exact fun q => nomatch q)
        · exact z, fun _ _ z => z⟩
    have hne : ∀ a, (∃ o, H1 a = some o) → a ≠ Dd := fun a ⟨o, e⟩ z => by rw [z, hD] at e; exact nomatch e
    have nc : Dd ∉ ρ1.cs := fun z => hne Dd (w1.trk Dd z) rfl
    refine ⟨⟨ρ1.cs, Dd :: ρ1.hid⟩, μ1, [], [], ex, fun a ha => upd_ne (hne a (w1.hid a ha).1), rfl, ⟨w1.len, w1.nd, fun a ha => ?_, fun a ha => ?_, fun i d a h1 h2 => ?_⟩, upd_same, Nat.le_refl _, .nil, ?_, ys0, m0, by rw [List.drop_zero]; exact hr, rfl, rfl⟩
    · obtain ⟨o, e⟩ := w1.trk a ha
      exact ⟨o, by rw [upd_ne (hne a ⟨o, e⟩)]; exact e⟩
    · rcases List.mem_cons.mp ha with z | z
      · subst z
        exact ⟨⟨_, upd_same⟩, nc⟩
      · obtain ⟨⟨o, e⟩, h2⟩ := w1.hid a z
        exact ⟨⟨o, by rw [upd_ne (hne a ⟨o, e⟩)]; exact e⟩, h2⟩
    · have q := w1.cell i d a h1 h2
      exact q.mono ex (upd_ne (hne a (w1.trk a (List.mem_of_getElem? h2))))
    · have q := REnv.wipe re1 vs
      exact ⟨q.len, fun i d h => let ⟨v, h1, h2⟩ := q.at_ i d h; ⟨v, h1, h2.mono ex⟩⟩
  · rintro i m H ⟨rfl, hi, ρ, μ, acc, ys, ex, hh, hhid, w, hDd, hacc, ra, re, zs, m, hcomp, hys, hm⟩
    by_cases hlt : i < its.items.length
    · have hd : its.items.drop i = its.items[i] :: its.items.drop (i + 1) := List.drop_eq_getElem_cons hlt
      rw [hd] at hcomp
      unfold compM at hcomp
      by_cases ho : its.ok μ = true
      · rw [if_pos ho] at hcomp
        refine .inr ⟨wk.goes H ρ μ i ex w ho hlt, INV (i + 1), fun H' q => ⟨its.items.length - (i + 1), by omega, rfl, hlt, q⟩, fun x H3 hy => ?_⟩
        obtain ⟨e3, w3, r3⟩ := wk.yields H ρ μ i x H3 its.items[i] ex w ho (by simp [hlt]) hy
        cases hput : t.put its.items[i] (wipeE env vs) with
        | none => rw [hput] at hcomp; exact nomatch hcomp
        | some env1 =>
          rw [hput] at hcomp
          dsimp only at hcomp
          refine ⟨ρ, μ, wipeE env vs, env1, its.items[i], w3, re.mono e3, r3, hput, fun σ4 re4 hw4 => ⟨?_, ρ, μ, env1, w3, re4, ?_⟩⟩
          · rw [hw4 vs ht, wipe_wipe]
          · have hD3 : H3 Dd = some (.lst acc) := (e3.ha Dd (by rw [hhid]; exact List.mem_cons_self)).trans hDd
            have h3 : ∀ a ∈ ρ1.hid, H3 a = H1 a := fun a ha => (e3.ha a (by rw [hhid]; exact List.mem_cons_of_mem _ ha)).trans (hh a ha)
            cases htt : tt env1 μ with
            | ok b μ5 =>
              have hc5 : (if b = true then (te env1 μ5).bindN fun x μ2 => (compM its t.put tt te (wipeE env vs) (its.items.drop (i + 1)) μ2).bindN fun xs μ3 => .ok (x :: xs) μ3
                else compM its t.put tt te (wipeE env vs) (its.items.drop (i + 1)) μ5) = .ok zs m := by
                have := hcomp
                rw [htt] at this
                exact this
              intro H5 ρ5 e5 w5
              have hid5 : ρ5.hid = Dd :: ρ1.hid := e5.hs.trans hhid
              have hD5 : H5 Dd = some (.lst acc) := (e5.ha Dd (by rw [hhid]; exact List.mem_cons_self)).trans hD3
              have h5 : ∀ a ∈ ρ1.hid, H5 a = H1 a := fun a ha => (e5.ha a (by rw [hhid]; exact List.mem_cons_of_mem _ ha)).trans (h3 a ha)
              have ex5 := ex.trans (e3.x.trans e5.x)
              have re5 := (re.mono e3).mono e5
              have ra5 := (ra.mono e3.x).mono e5.x
              cases b with
              | false =>
                rw [if_neg Bool.false_ne_true]
                rw [if_neg Bool.false_ne_true] at hc5
                exact ⟨ρ5, μ5, acc, ys, ex5, h5, hid5, w5, hD5, Nat.le_succ_of_le hacc, ra5, re5, zs, m, hc5, hys, hm⟩
              | true =>
                rw [if_pos rfl]
                rw [if_pos rfl] at hc5
                refine ⟨ρ5, μ5, env1, w5, re4.mono e5, ?_⟩
                cases hte : te env1 μ5 with
                | ok y μ6 =>
                  rw [hte] at hc5
                  intro vy H6 ρ6 e6 w6 r6
                  have hid6 : ρ6.hid = Dd :: ρ1.hid := e6.hs.trans hid5
                  have hD6 : H6 Dd = some (.lst acc) := (e6.ha Dd (by rw [hid5]; exact List.mem_cons_self)).trans hD5
                  have h6 : ∀ a ∈ ρ1.hid, H6 a = H1 a := fun a ha => (e6.ha a (by rw [hid5]; exact List.mem_cons_of_mem _ ha)).trans (h5 a ha)
                  have ex6 := ex5.trans e6.x
                  have lD : CL.Live ρ6 μ6 Dd := .inl (by rw [hid6]; exact List.mem_cons_self)
                  have nD1 : ∀ a o, H1 a = some o → a ≠ Dd := fun a o e => ne_of_none e hD
                  have exu : Exx H6 (CL.Live ρ6 μ6) ρ6.cs (upd H6 Dd (.lst (acc ++ [vy]))) (CL.Live ρ6 μ6) ρ6.cs :=
                    ⟨fun a o e n => .inl (by rw [upd_ne (show a ≠ Dd from fun z => n (by rw [z]; exact lD))]; exact e), fun _ _ _ z => z, fun _ _ z => z⟩
                  have nc6 : Dd ∉ ρ6.cs := (w6.hid Dd (by rw [hid6]; exact List.mem_cons_self)).2
                  have w7 : Wd K mg (upd H6 Dd (.lst (acc ++ [vy]))) ρ6 μ6 := by
                    refine ⟨w6.len, w6.nd, fun a ha => ?_, fun a ha => ?_, fun i d a h1 h2 => ?_⟩
                    · obtain ⟨o, e⟩ := w6.trk a ha
                      exact ⟨o, by rw [upd_ne (show a ≠ Dd from fun z => nc6 (by rw [← z]; exact ha))]; exact e⟩
                    · by_cases z : a = Dd
                      · subst z
                        exact ⟨⟨_, upd_same⟩, nc6⟩
                      · obtain ⟨⟨o, e⟩, h2⟩ := w6.hid a ha
                        exact ⟨⟨o, by rw [upd_ne z]; exact e⟩, h2⟩
                    · exact (w6.cell i d a h1 h2).mono exu (upd_ne (show a ≠ Dd from fun z => nc6 (by rw [← z]; exact List.mem_of_getElem? h2)))
                  refine ⟨acc, hD6, ?_, ?_⟩
                  · have : acc.length < lim := by omega
                    exact lim_lt (Nat.le_of_lt this)
                  · cases hrest : compM its t.put tt te (wipeE env vs) (its.items.drop (i + 1)) μ6 with
                    | ok zs' m' =>
                      have hc7 : Rs.ok (y :: zs') m' = Rs.ok zs m := by
                        have := hc5
                        unfold Rs.bindN at this
                        dsimp only at this
                        rw [hrest] at this
                        exact this
                      injection hc7 with z1 z2
                      subst z1 z2
                      refine ⟨ρ6, μ6, acc ++ [vy], ys ++ [y], ex6.trans exu, fun a ha => ?_, hid6, w7, upd_same, by simp; omega, (RL.append (ra5.mono e6.x) (.one r6)).mono exu, ?_, zs', m', hrest, by rw [hys]; simp, hm⟩
                      · have hn : a ≠ Dd := fun z => by
                          obtain ⟨⟨o, e⟩, _⟩ := w1.hid a ha
                          rw [z, hD] at e
                          exact nomatch e
                        rw [upd_ne hn]
                        exact h6 a ha
                      · have q := re5.mono e6
                        exact ⟨q.len, fun i d h => let ⟨v, h1, h2⟩ := q.at_ i d h; ⟨v, h1, h2.mono exu⟩⟩
                    | ex c x m' => 
                      have := hc5
                      unfold Rs.bindN at this
                      dsimp only at this
                      rw [hrest] at this
                      exact nomatch this
                    | no => 
                      have := hc5
                      unfold Rs.bindN at this
                      dsimp only at this
                      rw [hrest] at this
                      exact nomatch this
                | ex c x m' => rw [hte] at hc5; exact nomatch hc5
                | no => rw [hte] at hc5; exact nomatch hc5
            | ex c x m' => rw [htt] at hcomp; exact nomatch hcomp
            | no => rw [htt] at hcomp; exact nomatch hcomp
      · rw [if_neg ho] at hcomp
        exact nomatch hcomp
    · have e : i = its.items.length := by omega
      subst e
      rw [List.drop_length] at hcomp
      unfold compM at hcomp
      by_cases ho : its.ok μ = true
      · rw [if_pos ho] at hcomp
        injection hcomp with z1 z2
        subst z1 z2
        rw [List.append_nil] at hys
        subst hys hm
        refine .inl ⟨wk.stops H ρ μ ex w ho, ?_⟩
        exact hk H ρ Dd acc ex hh hhid w hD hDd ra
      · rw [if_neg ho] at hcomp
        exact nomatch hcomp

/-- the new list stands still | is mutable -/
def kFz : List D → M D := fun ys μ => .ok (.lst ys) μ
def kCe : List D → M D := fun ys μ => .ok (.cel μ.length) (μ ++ [some (.lst ys)])
/-- what a new list at Dd may become -/
def KNew (K : PySem.W.Frag) (mg : Str → Option Value) (k : List D → M D) : Prop :=
  ∀ (H1 : Hp) (ρ1 : Lc) (μ1 : Mem) (H2 : Hp) (ρ2 : Lc) (m : Mem) (Dd : Addr) (acc : List V) (ys : List D) (Q : VK) (E : XK), (∀ a ∈ ρ1.hid, ∃ o, H1 a = some o) → Exx H1 (CL.Live ρ1 μ1) ρ1.cs H2 (CL.Live ρ2 m) ρ2.cs → (∀ a ∈ ρ1.hid, H2 a = H1 a) → ρ2.hid = Dd :: ρ1.hid → Wd K mg H2 ρ2 m → H1 Dd = none → H2 Dd = some (.lst acc) →
    RLm K mg H2 ρ2 m acc ys → Post K mg (k ys m) H1 ρ1 μ1 Q E → Q (.ref Dd) H2
theorem kFz_ok : KNew K mg kFz := fun H1 ρ1 μ1 H ρ m Dd acc ys Q E ht ex hh hhid w hD hDd ra p => by
  have nc : Dd ∉ ρ.cs := (w.hid Dd (by rw [hhid]; exact List.mem_cons_self)).2
  have lf : ∀ a, CL.Live ⟨ρ.cs, ρ1.hid⟩ m a → CL.Live ρ m a := fun a l => by
    rcases l with l | l
    · exact .inl (by rw [hhid]; exact List.mem_cons_of_mem _ l)
    · exact .inr l
  have exf : Exx H (CL.Live ρ m) ρ.cs H (CL.Live ⟨ρ.cs, ρ1.hid⟩ m) ρ.cs := ⟨fun _ _ e _ => .inl e, fun a _ _ l => lf a l, fun _ _ z => z⟩
  refine p (.ref Dd) H ⟨ρ.cs, ρ1.hid⟩ ⟨ex.trans exf, rfl, hh⟩ ⟨w.len, w.nd, w.trk, fun a ha => w.hid a (by rw [hhid]; exact List.mem_cons_of_mem _ ha), fun i d a h1 h2 => (w.cell i d a h1 h2).mono exf rfl⟩ (.lst ⟨.inl hDd, ?_⟩ (ra.mono exf))
  rintro (z | ⟨i, d, z, _⟩)
  · obtain ⟨o, e⟩ := ht Dd z
    rw [hD] at e
    exact nomatch e
  · exact nc (List.mem_of_getElem? z)
theorem kCe_ok : KNew K mg kCe := fun H1 ρ1 μ1 H ρ m Dd acc ys Q E ht ex hh hhid w hD hDd ra p => by
  have nc : Dd ∉ ρ.cs := (w.hid Dd (by rw [hhid]; exact List.mem_cons_self)).2
  have nh : Dd ∉ ρ1.hid := fun z => by
    obtain ⟨o, e⟩ := ht Dd z
    rw [hD] at e
    exact nomatch e
  have gl : ∀ (i : Nat) (a : Addr), (ρ.cs ++ [Dd])[i]? = some a → (i < ρ.cs.length ∧ ρ.cs[i]? = some a) ∨ (i = ρ.cs.length ∧ a = Dd) := fun i a h => by
    by_cases hi : i < ρ.cs.length
    · rw [List.getElem?_append_left hi] at h
      exact .inl ⟨hi, h⟩
    · rw [List.getElem?_append_right (by omega)] at h
      have z : i - ρ.cs.length = 0 := by
        have := (List.getElem?_eq_some_iff.mp h).1
        simp at this
        omega
      rw [z] at h
      exact .inr ⟨by omega, (Option.some.inj h).symm⟩
  have gm : ∀ (i : Nat) (d : D), i < ρ.cs.length → (m ++ [some (.lst ys)])[i]? = some (some d) → m[i]? = some (some d) := fun i d hi h => by
    rw [List.getElem?_append_left (by rw [← w.len]; exact hi)] at h
    exact h
  have lf : ∀ a, CL.Live ⟨ρ.cs ++ [Dd], ρ1.hid⟩ (m ++ [some (.lst ys)]) a → CL.Live ρ m a := fun a l => by
    rcases l with l | ⟨i, d, h1, h2⟩
    · exact .inl (by rw [hhid]; exact List.mem_cons_of_mem _ l)
    · rcases gl i a h1 with ⟨hi, h⟩ | ⟨hi, h⟩
      · exact .inr ⟨i, d, h, gm i d hi h2⟩
      · exact .inl (by rw [hhid, h]; exact List.mem_cons_self)
  have exf : Exx H (CL.Live ρ m) ρ.cs H (CL.Live ⟨ρ.cs ++ [Dd], ρ1.hid⟩ (m ++ [some (.lst ys)])) (ρ.cs ++ [Dd]) := ⟨fun _ _ e _ => .inl e, fun a _ _ l => lf a l, fun i a h => by
    rw [List.getElem?_append_left (List.getElem?_eq_some_iff.mp h).1]
    exact h⟩
  refine p (.ref Dd) H ⟨ρ.cs ++ [Dd], ρ1.hid⟩ ⟨ex.trans exf, rfl, hh⟩ ⟨by simp [w.len], ?_, fun a ha => ?_, fun a ha => ?_, fun i d a h1 h2 => ?_⟩ (.cel (by rw [← w.len]; simp))
  · rw [List.nodup_append]
    exact ⟨w.nd, by simp, fun a ha b hb => by
      have : b = Dd := by simpa using hb
      rw [this]
      exact fun z => nc (by rw [← z]; exact ha)⟩
  · rcases List.mem_append.mp ha with ha | ha
    · exact w.trk a ha
    · have : a = Dd := by simpa using ha
      rw [this]
      exact ⟨_, hDd⟩
  · obtain ⟨h1, h2⟩ := w.hid a (by rw [hhid]; exact List.mem_cons_of_mem _ ha)
    refine ⟨h1, fun z => ?_⟩
    rcases List.mem_append.mp z with z | z
    · exact h2 z
    · have : a = Dd := by simpa using z
      rw [this] at ha
      exact nh ha
  · rcases gl i a h2 with ⟨hi, h⟩ | ⟨hi, h⟩
    · exact (w.cell i d a (gm i d hi h1) h).mono exf rfl
    · subst h
      rw [hi, w.len, List.getElem?_append_right (Nat.le_refl _)] at h1
      have e1 : D.lst ys = d := by simpa using h1
      subst e1
      exact ⟨acc, hDd, ra.mono exf⟩
theorem comp_in {mi : MI} {t : Tgt} {tt : MB} {te : ME} {k : List D → M D} {vs : List Nat} {σ : L2.St} {H : Hp} {Q : VK} {J0 : Unit} (hk : KNew K mg k) (ht : ∀ i ∈ t.slots, i ∈ vs) (h : tM K mg W (mComp k mi t tt te vs) σ H Q) :
    tLc (tMI K mg W mi) (gM K mg t) (tMB K mg W0 tt) (tM K mg W0 te) vs σ H Q := by
  obtain ⟨ρ, μ, env, w, re, p⟩ := h
  have p0 : PostI K mg (mi env μ) H ρ μ (fun J H1 => ∃ t' ρ1 μ1, Exm H ρ μ H1 ρ1 μ1 ∧ Wd K mg H1 ρ1 μ1 ∧ WalkM K mg J t' H1 ρ1 μ1 ∧ Post K mg (if t'.items.length ≤ lim then (compM t' t.put tt te (wipeE env vs) t'.items μ1).bindN k else .no) H1 ρ1 μ1 Q (fun c od H' => W c od σ H')) (fun c od H' => W c od σ H') := by
    unfold mComp at p
    cases hmi : mi env μ with
    | ok t' m => rw [hmi] at p; exact fun J H1 ρ1 e w1 wk => ⟨t', ρ1, m, e, w1, wk, Post.base e p⟩
    | ex c x m => rw [hmi] at p; exact p
    | no => rw [hmi] at p; exact p
  refine ⟨ρ, μ, env, w, re, PostI.imp p0 (fun J H1 ⟨its, ρ1, μ1, e1, w1, wk, p1⟩ => fun Dd hD => ?_) fun _ _ _ z => z⟩
  by_cases hl : its.items.length ≤ lim
  · rw [if_pos hl] at p1
    obtain ⟨ys0, m0, hr, p2⟩ := bindN_ne p1
    exact comp_core (wi := tMI K mg W mi) (g := gM K mg t) (k := k) hl ht w1 (re.mono e1) wk hr (fun H2 ρ2 Dd acc ex hh hid w2 hD hDd ra => hk H1 ρ1 μ1 H2 ρ2 m0 Dd acc ys0 Q _ (fun a ha => (w1.hid a ha).1) ex hh hid w2 hD hDd ra p2) Dd hD
  · rw [if_neg hl] at p1
    exact False.elim p1
/-- [..] -/
theorem se_comp {elt tg iter : Expr} {ifs : List Expr} {scope : Scope} {own : List (Str × Nat)} {mi : MI} {t : Tgt} {tt : MB} {te : ME} {k : List D → M D} (hk : KNew X.K X.mg k) (hc : X.calm = true) (hN : X.N.Nodup) (hi : SI X W tg iter mi) (ok : BlkOk X.N X.env.scope scope own)
    (ht : ∀ i ∈ t.slots, i ∈ own.map (·.2))
    (hg : ∀ (s : Shared) (H : Hp) (C : Addr) (cl : List (Str × Addr)) (fp : List Addr), SG (Bl X s H scope cl C fp) tg t) (hts : ∀ (s : Shared) (H : Hp) (C : Addr) (cl : List (Str × Addr)) (fp : List Addr), STs (Bl X s H scope cl C fp) W0 ifs tt)
    (he : ∀ (s : Shared) (H : Hp) (C : Addr) (cl : List (Str × Addr)) (fp : List Addr), SE (Bl X s H scope cl C fp) W0 elt te) (hs : ∀ x, foldedSetIterable iter X.env x = pure x := by intro _; rfl) :
    SE X W (.ListComp elt [⟨tg, iter, ifs, 0⟩] scope pos) (mComp k mi t tt te (own.map (·.2))) :=
  PE.imp (pe_lc hc hN hi ok hg hts he hs) fun σ H Q h => comp_in (J0 := ()) hk ht h
/-- name = [..] on one line, the name a plain local -/
theorem s_setLc {i : Nat} {y : Str} {py spos : Pos} {elt tg iter : Expr} {ifs : List Expr} {scope : Scope} {own : List (Str × Nat)} {mi : MI} {t : Tgt} {tt : MB} {te : ME} {k : List D → M D} (hk : KNew X.K X.mg k) (hc : X.calm = true) (hN : X.N.Nodup) (hi : SI X W tg iter mi) (ok : BlkOk X.N X.env.scope scope own)
    (ht : ∀ i ∈ t.slots, i ∈ own.map (·.2))
    (hg : ∀ (s : Shared) (H : Hp) (C : Addr) (cl : List (Str × Addr)) (fp : List Addr), SG (Bl X s H scope cl C fp) tg t) (hts : ∀ (s : Shared) (H : Hp) (C : Addr) (cl : List (Str × Addr)) (fp : List Addr), STs (Bl X s H scope cl C fp) W0 ifs tt)
    (he : ∀ (s : Shared) (H : Hp) (C : Addr) (cl : List (Str × Addr)) (fp : List Addr), SE (Bl X s H scope cl C fp) W0 elt te)
    (hsw : swapsWith (.ListComp elt [⟨tg, iter, ifs, 0⟩] scope pos) (some (.Name y py)) spos.line X.env = pure true) (hy : X.N[i]? = some y := by rfl) (hyl : X.env.scope.names.lookup y = some .local := by rfl) (hs : ∀ x, foldedSetIterable iter X.env x = pure x := by intro _; rfl) :
    SS X W (.Assign [.Name y py] (.ListComp elt [⟨tg, iter, ifs, 0⟩] scope pos) spos) (sAsg (mComp k mi t tt te (own.map (·.2))) (tgName i)) := by
  refine PS.imp (ps_setLc (g := gM X.K X.mg t) (tt := tMB X.K X.mg W0 tt) (te := tM X.K X.mg W0 te) hc hN hy hyl hsw hi ok hg hts he hs) fun Dn σ H ⟨ρ, μ, env, w, re, p⟩ => ?_
  refine comp_in (J0 := ()) hk ht (W := W) ⟨ρ, μ, env, w, re, Post.imp (post_st re p) (fun v H1 ⟨d, ρ1, μ1, e1, w1, re1, r1, p1⟩ => p1 _ H1 ρ1 Exm.refl w1 (re1.set i r1)) fun _ _ _ z => z⟩
end
end CL

namespace CL
open PySem L2 PySem.Spec PyProof.Rows
section
variable {K : PySem.W.Frag} {mg : Str → Option Value} {H H1 : Hp} {ρ ρ1 : Lc} {μ μ1 : Mem} {E : XK}

/-- as a list: still or mutable -/
def lstOf (μ : Mem) : D → Option (List D)
  | .lst ds => some ds
  | .cel i => match μ[i]? with
    | some (some (.lst ds)) => some ds
    | _ => none
  | _ => none
def dctOf (μ : Mem) : D → Option (Bool × List (D × D))
  | .dct t ds => some (t, ds)
  | .cel i => match μ[i]? with
    | some (some (.dct t ds)) => some (t, ds)
    | _ => none
  | _ => none
theorem lstOf_ok {v : V} {d : D} {ds : List D} (w : Wd K mg H ρ μ) (r : Rm K mg H ρ μ v d) (h : lstOf μ d = some ds) : ∃ a vs, v = .ref a ∧ Rd H a (.lst vs) ∧ RLm K mg H ρ μ vs ds := by
  cases r with
  | lst f rl =>
    have e := Option.some.inj h
    subst e
    exact ⟨_, _, rfl, f.1, rl⟩
  | cel hc =>
    rename_i a i
    have h1 : (match μ[i]? with
      | some (some (.lst ds)) => some ds
      | _ => none) = some ds := h
    cases hm : μ[i]? with
    | none => rw [hm] at h1; exact nomatch h1
    | some o =>
      rw [hm] at h1
      cases o with
      | none => exact nomatch h1
      | some d =>
        cases d with
        | lst es =>
          have e := Option.some.inj h1
          subst e
          obtain ⟨vs, h2, h3⟩ := w.cell i _ a hm hc
          exact ⟨a, vs, rfl, .inl h2, h3⟩
        | _ => exact nomatch h1
  | _ => exact nomatch (show (none : Option (List D)) = some _ from h)
def opII (f : Int → Int → Option D) : D → D → M D
  | .int i, .int j, μ => match f i j with
    | some d => .ok d μ
    | none => .no
  | _, _, _ => .no
theorem opM_II {C : Int → Int → Prop} {g : Int → Int → V} {f : Int → Int → Option D} (h : ∀ i j d, f i j = some d → C i j ∧ ∀ H Lv ρ, R K mg H Lv ρ (g i j) d) : OpM K mg (rI C g) (opII f) := by
  intro H ρ μ x y a b Q E w rx ry p
  cases rx with
  | int i =>
    cases ry with
    | int j =>
      have p' : Post K mg (match f i j with
        | some d => Rs.ok d μ
        | none => .no) H ρ μ Q E := p
      cases hf : f i j with
      | none => rw [hf] at p'; exact False.elim p'
      | some d =>
        rw [hf] at p'
        obtain ⟨h1, h2⟩ := h i j d hf
        exact ⟨i, j, rfl, rfl, h1, Post.ok w p' (h2 _ _ _)⟩
    | _ => exact False.elim p
  | _ => cases ry <;> exact False.elim p
theorem opM_II0 {g : Int → Int → V} {f : Int → Int → Option D} (h : ∀ i j d, f i j = some d → ∀ H Lv ρ, R K mg H Lv ρ (g i j) d) : OpM K mg (rI0 g) (opII f) := by
  intro H ρ μ x y a b Q E w rx ry p
  obtain ⟨i, j, e1, e2, _, q⟩ := opM_II (C := fun _ _ => True) (fun i j d e => ⟨trivial, h i j d e⟩) H ρ μ x y a b Q E w rx ry p
  exact ⟨i, j, e1, e2, q⟩
def isPow (j : Int) : Bool := decide (0 ≤ j ∧ j ≤ 1000000)
def dSub : D → D → M D := opII fun i j => some (.int (i - j))
def dFdiv : D → D → M D := opII fun i j => if 0 < j ∧ j.natAbs.log2 < 9000 then some (.int (i / j)) else none
def dMod : D → D → M D := opII fun i j => if 0 < j then some (.int (i % j)) else none
def dPow : D → D → M D := opII fun i j => if 0 ≤ j ∧ j ≤ 1000000 ∧ i.natAbs < 2 ^ 64 then some (.int (i ^ j.toNat)) else none
def dLt : D → D → M D := opII fun i j => some (.bl (decide (i < j)))
def dLe : D → D → M D := opII fun i j => some (.bl (decide (i ≤ j)))
def dGt : D → D → M D := opII fun i j => some (.bl (decide (j < i)))
def dGe : D → D → M D := opII fun i j => some (.bl (decide (j ≤ i)))
theorem m_sub : OpM K mg (rI0 fun i j => V.int (i - j)) dSub := opM_II0 fun i j d e => by
  have e := Option.some.inj e; subst e; exact fun _ _ _ => .int _
theorem m_fdiv : OpM K mg (rI CDivW fun i j => V.int (i / j)) dFdiv := opM_II fun i j d e => by
  split at e
  · rename_i h
    have e := Option.some.inj e; subst e; exact ⟨h, fun _ _ _ => .int _⟩
  · exact nomatch e
theorem m_mod : OpM K mg (rI (fun _ j => 0 < j) fun i j => V.int (i % j)) dMod := opM_II fun i j d e => by
  split at e
  · rename_i h
    have e := Option.some.inj e; subst e; exact ⟨h, fun _ _ _ => .int _⟩
  · exact nomatch e
theorem m_pow : OpM K mg (rI CPow fun i j => V.int (i ^ j.toNat)) dPow := opM_II fun i j d e => by
  split at e
  · rename_i h
    have e := Option.some.inj e; subst e; exact ⟨h, fun _ _ _ => .int _⟩
  · exact nomatch e
theorem m_lt : OpM K mg (rI0 fun i j => V.bl (decide (i < j))) dLt := opM_II0 fun i j d e => by
  have e := Option.some.inj e; subst e; exact fun _ _ _ => .bl _
theorem m_le : OpM K mg (rI0 fun i j => V.bl (decide (i ≤ j))) dLe := opM_II0 fun i j d e => by
  have e := Option.some.inj e; subst e; exact fun _ _ _ => .bl _
theorem m_gt : OpM K mg (rI0 fun i j => V.bl (decide (j < i))) dGt := opM_II0 fun i j d e => by
  have e := Option.some.inj e; subst e; exact fun _ _ _ => .bl _
theorem m_ge : OpM K mg (rI0 fun i j => V.bl (decide (j ≤ i))) dGe := opM_II0 fun i j d e => by
  have e := Option.some.inj e; subst e; exact fun _ _ _ => .bl _

theorem opR_or {X : Cx} {f : Value → Value → Sem Value} {r r' : R2} (h : OpR X f r) (h' : OpR X f r') : OpR X f (fun x y H Q => r x y H Q ∨ r' x y H Q) := OpR.or h h'
/-- + -/
def mulOk (i j : Int) : Bool := decide (i.natAbs.log2 + j.natAbs.log2 + 2 ≤ 134217728)
def dAdd : D → D → M D := fun a b μ => match a, b with
  | .int i, .int j => .ok (.int (i + j)) μ
  | .str x, .str y => if x.length + y.length ≤ lim then .ok (.str (x ++ y)) μ else .no
  | .tup xs, .tup ys => if xs.length + ys.length ≤ lim then .ok (.tup (xs ++ ys)) μ else .no
  | a, b => match lstOf μ a, lstOf μ b with
    | some xs, some ys => if xs.length + ys.length ≤ lim then .ok (.lst (xs ++ ys)) μ else .no
    | _, _ => .no
end
end CL

namespace L2
open PySem PySem.Spec PyProof.Rows
section
variable {X : Cx} {pins : List (Addr × Obj)} {σ : St} {H : Hp} {s : Shared} {l : Addr} {xs : List V}
theorem Inv.lstR (I : Inv X pins σ H s) (hH : Rd H l (.lst xs)) : xs.length ≤ sizeLine ∧ ∃ (its : List Value) (n : Nat), Vals xs its ∧ xs.length = its.length ∧ s.heap.get? l = some { cls := .type "list", data := .seq its.toArray n } := by
  obtain ⟨z, its, n, r, e⟩ := hH.ok I.hok
  exact ⟨z, its, n, r, r.length, e⟩
def rCatR : R2 := fun x y H Q => ∃ l b xs zs, x = .ref l ∧ y = .ref b ∧ Rd H l (.lst xs) ∧ Rd H b (.lst zs) ∧ xs.length + zs.length ≤ sizeLine ∧ ∀ p, H p = none → Q (.ref p) (upd H p (.lst (xs ++ zs)))
theorem op_catR : OpR X (binaryOp .Add) rCatR := by
  intro pins s σ H x y v u Q I rx ry h
  obtain ⟨l, b, xs, zs, rfl, rfl, hH, hB, hz, q⟩ := h
  cases rx
  cases ry
  obtain ⟨z, its, n, r, hl, e⟩ := I.lstR hH
  obtain ⟨z2, its2, n2, r2, hl2, e2⟩ := I.lstR hB
  refine PySem.P.add_list e e2 ?_ (by rw [List.size_toArray, List.size_toArray]; omega)
  have ea : its.toArray ++ its2.toArray = (its ++ its2).toArray := by simp
  rw [ea]
  exact ⟨.ref _, _, I.lnew (t' := s.toks) (r.append r2) (by rw [List.length_append]; omega), rfl, q _ I.fresh⟩
end
end L2
namespace CL
open PySem L2 PySem.Spec PyProof.Rows
section
variable {K : PySem.W.Frag} {mg : Str → Option Value} {H H1 : Hp} {ρ ρ1 : Lc} {μ μ1 : Mem} {E : XK}
theorem Post.newL {vs : List V} {ds : List D} {Q : VK} (w : Wd K mg H ρ μ) (r : RLm K mg H ρ μ vs ds) (p : Post K mg (.ok (.lst ds) μ) H ρ μ Q E) : ∀ a, H a = none → Q (.ref a) (upd H a (.lst vs)) :=
  fun a ha => p (.ref a) _ ρ (Exm.new w ha) (w.new ha) (Rm.newL w ha r)
theorem Post.newT {vs : List V} {ds : List D} {Q : VK} (w : Wd K mg H ρ μ) (r : RLm K mg H ρ μ vs ds) (p : Post K mg (.ok (.tup ds) μ) H ρ μ Q E) : ∀ a, H a = none → Q (.ref a) (upd H a (.tup vs)) :=
  fun a ha => p (.ref a) _ ρ (Exm.new w ha) (w.new ha) (Rm.newT w ha r)
theorem Post.newCe {vs : List V} {ds : List D} {Q : VK} (w : Wd K mg H ρ μ) (r : RLm K mg H ρ μ vs ds) (p : Post K mg (.ok (.cel μ.length) (μ ++ [some (.lst ds)])) H ρ μ Q E) : ∀ a, H a = none → Q (.ref a) (upd H a (.lst vs)) :=
  fun a ha => p (.ref a) _ (ρ.push a) (Exm.newC w ha) (Wd.newCL w ha r) (Rm.newC w)
/-- what becomes of a new list: it stands, or it is mutable -/
def NewK (k : List D → M D) : Prop := ∀ (K : PySem.W.Frag) (mg : Str → Option Value) (H : Hp) (ρ : Lc) (μ : Mem) (vs : List V) (ds : List D) (Q : VK) (E : XK), Wd K mg H ρ μ → RLm K mg H ρ μ vs ds → Post K mg (k ds μ) H ρ μ Q E → ∀ a, H a = none → Q (.ref a) (upd H a (.lst vs))
theorem newK_fz : NewK kFz := fun _ _ _ _ _ _ _ _ _ w r p => Post.newL w r p
theorem newK_ce : NewK kCe := fun _ _ _ _ _ _ _ _ _ w r p => Post.newCe w r p
/-- + (k: what becomes of a list) -/
def dAddK (k : List D → M D) : D → D → M D := fun a b μ => match lstOf μ a with
  | some xs => (match lstOf μ b with
    | some ys => if xs.length + ys.length ≤ lim then k (xs ++ ys) μ else .no
    | none => .no)
  | none => (match a, b with
    | .int i, .int j => .ok (.int (i + j)) μ
    | .str x, .str y => if x.length + y.length ≤ lim then .ok (.str (x ++ y)) μ else .no
    | .tup xs, .tup ys => if xs.length + ys.length ≤ lim then .ok (.tup (xs ++ ys)) μ else .no
    | _, _ => .no)
def rAddA (K : PySem.W.Frag) : R2 := fun x y H Q => rI0 (fun i j => V.int (i + j)) x y H Q ∨ (∃ i j, x = .str i ∧ y = .str j ∧ i.length + j.length ≤ sizeLine ∧ Q (.str (i ++ j)) H) ∨ rCatR x y H Q ∨ rCatA K x y H Q
theorem op_addA {X : Cx} : OpR X (binaryOp .Add) (rAddA X.K) := OpR.or op_add (OpR.or op_add_str (OpR.or op_catR op_catA))
theorem m_add {k : List D → M D} (hk : NewK k) : OpM K mg (rAddA K) (dAddK k) := by
  intro H ρ μ x y a b Q E w rx ry p
  unfold dAddK at p
  cases hx : lstOf μ a with
  | some xs =>
    rw [hx] at p
    cases hy : lstOf μ b with
    | none => rw [hy] at p; exact False.elim p
    | some ys =>
      rw [hy] at p
      dsimp only at p
      split at p
      · rename_i hl
        obtain ⟨l, vs, e1, h1, r1⟩ := lstOf_ok w rx hx
        obtain ⟨l2, ws, e2, h2, r2⟩ := lstOf_ok w ry hy
        exact .inr (.inr (.inl ⟨l, l2, vs, ws, e1, e2, h1, h2, by rw [r1.length, r2.length]; exact lim_line hl, hk _ _ _ _ _ _ _ _ _ w (r1.append r2) p⟩))
      · exact False.elim p
  | none =>
    rw [hx] at p
    cases rx with
    | int i => cases ry with
      | int j => exact .inl ⟨i, j, rfl, rfl, Post.ok w p (.int _)⟩
      | _ => exact False.elim p
    | str i => cases ry with
      | str j =>
        dsimp only at p
        split at p
        · rename_i hl
          exact .inr (.inl ⟨i, j, rfl, rfl, lim_line hl, Post.ok w p (.str _)⟩)
        · exact False.elim p
      | _ => exact False.elim p
    | tup f1 r1 => cases ry with
      | tup f2 r2 =>
        dsimp only at p
        split at p
        · rename_i hl
          refine .inr (.inr (.inr ⟨_, _, _, _, rfl, rfl, f1.sq, f2.sq, by rw [r1.length, r2.length]; exact lim_line hl, fun e => ?_, fun e e2 => ?_, fun _ _ => Post.newT w (r1.append r2) p⟩))
          · subst e
            have := r1.length
            have z : _ = ([] : List D) := List.length_eq_zero_iff.mp this.symm
            subst z
            exact Post.ok w p (.tup f2 r2)
          · subst e2
            have := r2.length
            have z : _ = ([] : List D) := List.length_eq_zero_iff.mp this.symm
            subst z
            rw [List.append_nil] at p
            exact Post.ok w p (.tup f1 r1)
        · exact False.elim p
      | _ => exact False.elim p
    | _ => exact False.elim p
/-- * of ints -/
theorem intBits_le (x : Int) : Builtin.Int.intBits x ≤ x.natAbs.log2 + 1 := by
  unfold Builtin.Int.intBits
  split <;> omega
def dMul : D → D → M D := opII fun i j => if i.natAbs.log2 + j.natAbs.log2 + 2 ≤ 134217728 then some (.int (i * j)) else none
theorem m_mul : OpM K mg (rI CMulX fun i j => V.int (i * j)) dMul := opM_II fun i j d e => by
  split at e
  · rename_i h
    have e := Option.some.inj e; subst e
    refine ⟨?_, fun _ _ _ => .int _⟩
    have h1 := intBits_le i
    have h2 := intBits_le j
    unfold CMulX
    omega
  · exact nomatch e

/-- as the library's plain data, mutable objects as they are now -/
def pd (μ : Mem) : Nat → D → Option PyData
  | 0, _ => none
  | n + 1, d => match d with
    | .non => some .none
    | .bl b => some (.bool b)
    | .int i => some (.int i)
    | .str x => some (.str x)
    | .lst ds => (ds.mapM (pd μ n)).map .list
    | .tup ds => (ds.mapM (pd μ n)).map .tuple
    | .cel i => match μ[i]? with
      | some (some (.lst ds)) => (ds.mapM (pd μ n)).map .list
      | _ => none
    | _ => none
theorem mapM_ok {f : D → Option PyData} (hf : ∀ v d p, Rm K mg H ρ μ v d → f d = some p → Dp K H v p) : ∀ {vs : List V} {ds : List D} {ps : List PyData}, RLm K mg H ρ μ vs ds → ds.mapM f = some ps → DpAll K H vs ps
  | _, _, ps, .nil, h => by
    have e : some [] = some ps := by simpa using h
    have e := Option.some.inj e
    subst e
    exact .nil
  | _, _, ps, .cons (d := d) (ds := ds) r t, h => by
    rw [List.mapM_cons] at h
    cases h1 : f d with
    | none => rw [h1] at h; exact nomatch h
    | some p =>
      rw [h1] at h
      cases h2 : ds.mapM f with
      | none => rw [h2] at h; exact nomatch h
      | some ps2 =>
        rw [h2] at h
        have e : some (p :: ps2) = some ps := h
        have e := Option.some.inj e
        subst e
        exact .cons (hf _ _ _ r h1) (mapM_ok hf t h2)
theorem pd_ok (w : Wd K mg H ρ μ) : ∀ (n : Nat) (v : V) (d : D) (p : PyData), Rm K mg H ρ μ v d → pd μ n d = some p → Dp K H v p
  | 0, _, _, _, _, h => nomatch h
  | n + 1, v, d, p, r, h => by
    have ih := pd_ok w n
    cases r with
    | non => have e := Option.some.inj h; subst e; exact .non
    | bl b => have e := Option.some.inj h; subst e; exact .bl b
    | int b => have e := Option.some.inj h; subst e; exact .int b
    | str b => have e := Option.some.inj h; subst e; exact .str b
    | lst f rl =>
      rename_i a vs ds
      have h1 : (ds.mapM (pd μ n)).map PyData.list = some p := h
      cases h2 : ds.mapM (pd μ n) with
      | none => rw [h2] at h1; exact nomatch h1
      | some ps =>
        rw [h2] at h1
        have e := Option.some.inj h1
        subst e
        exact .lst f.sq (mapM_ok ih rl h2)
    | tup f rl =>
      rename_i a vs ds
      have h1 : (ds.mapM (pd μ n)).map PyData.tuple = some p := h
      cases h2 : ds.mapM (pd μ n) with
      | none => rw [h2] at h1; exact nomatch h1
      | some ps =>
        rw [h2] at h1
        have e := Option.some.inj h1
        subst e
        exact .tup f.sq (mapM_ok ih rl h2)
    | cel hc =>
      rename_i a i
      have h1 : (match μ[i]? with
        | some (some (.lst ds)) => (ds.mapM (pd μ n)).map PyData.list
        | _ => none) = some p := h
      cases hm : μ[i]? with
      | none => rw [hm] at h1; exact nomatch h1
      | some o =>
        rw [hm] at h1
        cases o with
        | none => exact nomatch h1
        | some d =>
          cases d with
          | lst es =>
            obtain ⟨vs, h2, h3⟩ := w.cell i _ a hm hc
            have h1 : (es.mapM (pd μ n)).map PyData.list = some p := h1
            cases h4 : es.mapM (pd μ n) with
            | none => rw [h4] at h1; exact nomatch h1
            | some ps =>
              rw [h4] at h1
              have e := Option.some.inj h1
              subst e
              exact .lst (.inl (.inl h2)) (mapM_ok ih h3 h4)
          | _ => exact nomatch h1
    | _ => exact nomatch (show (none : Option PyData) = some p from h)
def dEq : D → D → M D := fun a b μ => match pd μ 40 a, pd μ 40 b with
  | some x, some y => if SeqAt.shaped x && SeqAt.shaped y then .ok (.bl (PyData.eqv x y)) μ else .no
  | _, _ => .no
def dNe : D → D → M D := fun a b μ => match pd μ 40 a, pd μ 40 b with
  | some x, some y => if SeqAt.shaped x && SeqAt.shaped y then .ok (.bl (!PyData.eqv x y)) μ else .no
  | _, _ => .no
theorem m_eq : OpM K mg (rEqD K) dEq := by
  intro H ρ μ x y a b Q E w rx ry p
  unfold dEq at p
  cases h1 : pd μ 40 a with
  | none => rw [h1] at p; exact False.elim p
  | some d =>
    cases h2 : pd μ 40 b with
    | none => rw [h1, h2] at p; exact False.elim p
    | some e =>
      rw [h1, h2] at p
      dsimp only at p
      split at p
      · rename_i h
        obtain ⟨s1, s2⟩ := Bool.and_eq_true_iff.mp h
        exact ⟨d, e, pd_ok w 40 x a d rx h1, pd_ok w 40 y b e ry h2, s1, s2, Post.ok w p (.bl _)⟩
      · exact False.elim p
theorem m_ne : OpM K mg (rNeD K) dNe := by
  intro H ρ μ x y a b Q E w rx ry p
  unfold dNe at p
  cases h1 : pd μ 40 a with
  | none => rw [h1] at p; exact False.elim p
  | some d =>
    cases h2 : pd μ 40 b with
    | none => rw [h1, h2] at p; exact False.elim p
    | some e =>
      rw [h1, h2] at p
      dsimp only at p
      split at p
      · rename_i h
        obtain ⟨s1, s2⟩ := Bool.and_eq_true_iff.mp h
        exact ⟨d, e, pd_ok w 40 x a d rx h1, pd_ok w 40 y b e ry h2, s1, s2, Post.ok w p (.bl _)⟩
      · exact False.elim p
/-- x in a list | a sign in a text -/
def inLst (neg : Bool) (a b : D) : M D := fun μ => match lstOf μ b with
    | some _ => (match pd μ 40 a, pd μ 40 b with
      | some x, some (.list ys) => if SeqAt.shaped x && SeqAt.shaped (.list ys) then .ok (.bl (if neg then !ys.any fun z => PyData.eqv z x else ys.any fun z => PyData.eqv z x)) μ else .no
      | _, _ => .no)
    | none => .no
def inOf (neg : Bool) : D → D → M D := fun a b μ => match b with
  | .str z => (match a with
    | .str x => (match x.cps.toList with
      | [c] => .ok (.bl (if neg then !decide (c ∈ z.cps.toList) else decide (c ∈ z.cps.toList))) μ
      | _ => .no)
    | _ => .no)
  | _ => inLst neg a b μ
def rInA (K : PySem.W.Frag) : R2 := fun x y H Q => rInS x y H Q ∨ rInD K x y H Q
def rNotInA (K : PySem.W.Frag) : R2 := fun x y H Q => rNotInS x y H Q ∨ rNotInD K x y H Q
theorem inLst_ok {neg : Bool} {x y : V} {a b : D} {Q : VK} (w : Wd K mg H ρ μ) (rx : Rm K mg H ρ μ x a) (ry : Rm K mg H ρ μ y b) (p : Post K mg (inLst neg a b μ) H ρ μ Q E) :
    ∃ d ds, Dp K H x d ∧ Dp K H y (.list ds) ∧ SeqAt.shaped d = true ∧ SeqAt.shaped (.list ds) = true ∧ Q (.bl (if neg then !ds.any fun z => PyData.eqv z d else ds.any fun z => PyData.eqv z d)) H := by
  unfold inLst at p
  cases h0 : lstOf μ b with
  | none => rw [h0] at p; exact False.elim p
  | some _ =>
    rw [h0] at p
    dsimp only at p
    cases h1 : pd μ 40 a with
    | none => rw [h1] at p; exact False.elim p
    | some d =>
      cases h2 : pd μ 40 b with
      | none => rw [h1, h2] at p; exact False.elim p
      | some e =>
        rw [h1, h2] at p
        cases e with
        | list ys =>
          dsimp only at p
          split at p
          · rename_i h
            obtain ⟨s1, s2⟩ := Bool.and_eq_true_iff.mp h
            exact ⟨d, ys, pd_ok w 40 x a d rx h1, pd_ok w 40 y b _ ry h2, s1, s2, Post.ok w p (.bl _)⟩
          · exact False.elim p
        | _ => exact False.elim p
theorem m_in : OpM K mg (rInA K) (inOf false) := by
  intro H ρ μ x y a b Q E w rx ry p
  unfold inOf at p
  cases ry with
  | str z =>
    cases rx with
    | str u =>
      dsimp only at p
      split at p
      · rename_i c hc
        refine .inl ⟨c, z, ?_, rfl, Post.ok w p (.bl _)⟩
        obtain ⟨⟨l⟩⟩ := u
        have e : l = [c] := hc
        rw [e]
      · exact False.elim p
    | _ => exact False.elim p
  | _ =>
    refine .inr ?_
    have q := inLst_ok (neg := false) w rx (by first | exact .non | exact .bl _ | exact .int _ | exact .ty _ | exact .lst ‹_› ‹_› | exact .tup ‹_› ‹_› | exact .dK ‹_› ‹_› ‹_› ‹_› ‹_› | exact .dT ‹_› ‹_› ‹_› ‹_› ‹_› | exact .ins ‹_› ‹_› ‹_› ‹_› ‹_› ‹_› | exact .cel ‹_› | exact .exc ‹_› ‹_› ‹_› ‹_› ‹_› ‹_› ‹_› ‹_›) p
    exact q
theorem m_notin : OpM K mg (rNotInA K) (inOf true) := by
  intro H ρ μ x y a b Q E w rx ry p
  unfold inOf at p
  cases ry with
  | str z =>
    cases rx with
    | str u =>
      dsimp only at p
      split at p
      · rename_i c hc
        refine .inl ⟨c, z, ?_, rfl, Post.ok w p (.bl _)⟩
        obtain ⟨⟨l⟩⟩ := u
        have e : l = [c] := hc
        rw [e]
      · exact False.elim p
    | _ => exact False.elim p
  | _ =>
    refine .inr ?_
    have q := inLst_ok (neg := true) w rx (by first | exact .non | exact .bl _ | exact .int _ | exact .ty _ | exact .lst ‹_› ‹_› | exact .tup ‹_› ‹_› | exact .dK ‹_› ‹_› ‹_› ‹_› ‹_› | exact .dT ‹_› ‹_› ‹_› ‹_› ‹_› | exact .ins ‹_› ‹_› ‹_› ‹_› ‹_› ‹_› | exact .cel ‹_› | exact .exc ‹_› ‹_› ‹_› ‹_› ‹_› ‹_› ‹_› ‹_›) p
    exact q
def dIsN (neg : Bool) : D → D → M D := fun a b μ => match b with
  | .non => .ok (.bl (match a with
    | .non => !neg
    | _ => neg)) μ
  | _ => .no
theorem m_isN : OpM K mg rIsN (dIsN false) := by
  intro H ρ μ x y a b Q E w rx ry p
  cases ry with
  | non => 
    refine ⟨rfl, ?_⟩
    cases rx <;> exact Post.ok w p (.bl _)
  | _ => exact False.elim p
theorem m_notN : OpM K mg rNotN (dIsN true) := by
  intro H ρ μ x y a b Q E w rx ry p
  cases ry with
  | non => 
    refine ⟨rfl, ?_⟩
    cases rx <;> exact Post.ok w p (.bl _)
  | _ => exact False.elim p
def dIsB (neg : Bool) : D → D → M D := fun a b μ => match a, b with
  | .bl x, .bl y => .ok (.bl (if neg then !decide (x = y) else decide (x = y))) μ
  | _, _ => .no
theorem m_isB : OpM K mg rIsB (dIsB false) := by
  intro H ρ μ x y a b Q E w rx ry p
  cases rx with
  | bl b1 => cases ry with
    | bl b2 => exact ⟨b1, b2, rfl, rfl, Post.ok w p (.bl _)⟩
    | _ => exact False.elim p
  | _ => cases ry <;> exact False.elim p
theorem m_notB : OpM K mg rNotB (dIsB true) := by
  intro H ρ μ x y a b Q E w rx ry p
  cases rx with
  | bl b1 => cases ry with
    | bl b2 => exact ⟨b1, b2, rfl, rfl, Post.ok w p (.bl _)⟩
    | _ => exact False.elim p
  | _ => cases ry <;> exact False.elim p
end
end CL

namespace CL
open PySem L2 PySem.Spec PyProof.Rows
section
variable {K : PySem.W.Frag} {mg : Str → Option Value} {H H1 : Hp} {ρ ρ1 : Lc} {μ μ1 : Mem} {E : XK}
theorem live_set {i : Nat} {d d' : D} (hm : μ[i]? = some (some d)) (a : Addr) : Live ρ (μ.set i (some d')) a ↔ Live ρ μ a := by
  have hl : i < μ.length := (List.getElem?_eq_some_iff.mp hm).1
  constructor
  · rintro (l | ⟨j, e, h1, h2⟩)
    · exact .inl l
    · by_cases hj : i = j
      · subst hj
        exact .inr ⟨i, d, h1, hm⟩
      · rw [List.getElem?_set_ne hj] at h2
        exact .inr ⟨j, e, h1, h2⟩
  · rintro (l | ⟨j, e, h1, h2⟩)
    · exact .inl l
    · by_cases hj : i = j
      · subst hj
        exact .inr ⟨i, d', h1, List.getElem?_set_self hl⟩
      · exact .inr ⟨j, e, h1, by rw [List.getElem?_set_ne hj]; exact h2⟩
theorem exx_set {i : Nat} {a : Addr} {d d' : D} {o : HO} (hc : ρ.cs[i]? = some a) (hm : μ[i]? = some (some d)) : Exx H (Live ρ μ) ρ.cs (upd H a o) (Live ρ (μ.set i (some d'))) ρ.cs :=
  ⟨fun b u e n => .inl (by rw [upd_ne (show b ≠ a from fun z => n (by rw [z]; exact .inr ⟨i, d, hc, hm⟩))]; exact e), fun b u e l => (live_set hm b).mp l, fun _ _ z => z⟩
theorem exm_set {i : Nat} {a : Addr} {d d' : D} {o : HO} (w : Wd K mg H ρ μ) (hc : ρ.cs[i]? = some a) (hm : μ[i]? = some (some d)) : Exm H ρ μ (upd H a o) ρ (μ.set i (some d')) :=
  ⟨exx_set hc hm, rfl, fun b hb => upd_ne fun z => (w.hid b hb).2 (by rw [z]; exact List.mem_of_getElem? hc)⟩
theorem wd_set {i : Nat} {a : Addr} {d d' : D} {o : HO} (w : Wd K mg H ρ μ) (hc : ρ.cs[i]? = some a) (hm : μ[i]? = some (some d)) (c : CellAt K mg (upd H a o) (Live ρ (μ.set i (some d'))) ρ.cs a d') : Wd K mg (upd H a o) ρ (μ.set i (some d')) := by
  have hl : i < μ.length := (List.getElem?_eq_some_iff.mp hm).1
  refine ⟨by simp [w.len], w.nd, fun b hb => ?_, fun b hb => ?_, fun j e b h1 h2 => ?_⟩
  · by_cases z : b = a
    · subst z; exact ⟨_, upd_same⟩
    · obtain ⟨u, hu⟩ := w.trk b hb
      exact ⟨u, by rw [upd_ne z]; exact hu⟩
  · obtain ⟨⟨u, hu⟩, h2⟩ := w.hid b hb
    exact ⟨⟨u, by rw [upd_ne (fun z => h2 (by rw [z]; exact List.mem_of_getElem? hc))]; exact hu⟩, h2⟩
  · by_cases hj : i = j
    · subst hj
      rw [List.getElem?_set_self hl] at h1
      have e1 : d' = e := Option.some.inj (Option.some.inj h1)
      have e2 : a = b := Option.some.inj (hc.symm.trans h2)
      subst e1 e2
      exact c
    · rw [List.getElem?_set_ne hj] at h1
      refine (w.cell j e b h1 h2).mono (exx_set hc hm) (upd_ne fun z => ?_)
      subst z
      have li : i < ρ.cs.length := by rw [w.len]; exact hl
      have lj : j < ρ.cs.length := (List.getElem?_eq_some_iff.mp h2).1
      have e1 : ρ.cs[i] = b := (List.getElem?_eq_some_iff.mp hc).2
      have e2 : ρ.cs[j] = b := (List.getElem?_eq_some_iff.mp h2).2
      exact hj ((List.getElem_inj w.nd).mp (e1.trans e2.symm))
/-- a mutable list's content -/
def celL (μ : Mem) : D → Option (Nat × List D)
  | .cel i => match μ[i]? with
    | some (some (.lst ds)) => some (i, ds)
    | _ => none
  | _ => none
theorem celL_ok {v : V} {d : D} {i : Nat} {ds : List D} (w : Wd K mg H ρ μ) (r : Rm K mg H ρ μ v d) (h : celL μ d = some (i, ds)) :
    ∃ a vs, v = .ref a ∧ d = .cel i ∧ ρ.cs[i]? = some a ∧ μ[i]? = some (some (.lst ds)) ∧ H a = some (.lst vs) ∧ RLm K mg H ρ μ vs ds := by
  cases r with
  | cel hc =>
    rename_i a j
    have h1 : (match μ[j]? with
      | some (some (.lst ds)) => some (j, ds)
      | _ => none) = some (i, ds) := h
    cases hm : μ[j]? with
    | none => rw [hm] at h1; exact nomatch h1
    | some o =>
      rw [hm] at h1
      cases o with
      | none => exact nomatch h1
      | some d =>
        cases d with
        | lst es =>
          have e := Option.some.inj h1
          injection e with e1 e2
          subst e1 e2
          obtain ⟨vs, h2, h3⟩ := w.cell j _ a hm hc
          exact ⟨a, vs, rfl, rfl, hc, hm, h2, h3⟩
        | _ => exact nomatch h1
  | _ => exact nomatch (show (none : Option (Nat × List D)) = some _ from h)
/-- the mutable list at a changes -/
theorem set_lst {i : Nat} {a : Addr} {ds ds' : List D} {vs' : List V} {Q : VK} {v : V} {d : D} (w : Wd K mg H ρ μ) (hc : ρ.cs[i]? = some a) (hm : μ[i]? = some (some (.lst ds))) (r : RLm K mg H ρ μ vs' ds') (rv : Rm K mg H ρ μ v d)
    (p : Post K mg (.ok d (μ.set i (some (.lst ds')))) H ρ μ Q E) : Q v (upd H a (.lst vs')) :=
  p v _ ρ (exm_set w hc hm) (wd_set w hc hm ⟨vs', upd_same, r.mono (exx_set hc hm)⟩) (rv.mono (exx_set hc hm))
theorem set_lstU {i : Nat} {a : Addr} {ds ds' : List D} {vs' : List V} (w : Wd K mg H ρ μ) (hc : ρ.cs[i]? = some a) (hm : μ[i]? = some (some (.lst ds))) (r : RLm K mg H ρ μ vs' ds') :
    Exm H ρ μ (upd H a (.lst vs')) ρ (μ.set i (some (.lst ds'))) ∧ Wd K mg (upd H a (.lst vs')) ρ (μ.set i (some (.lst ds'))) :=
  ⟨exm_set w hc hm, wd_set w hc hm ⟨vs', upd_same, r.mono (exx_set hc hm)⟩⟩

def tyOf (T : String) (μ : Mem) (d : D) : Bool := match d with
  | .str _ => decide (T = "str")
  | _ => decide (T = "list") && (lstOf μ d).isSome
theorem tyOf_ok {T : String} {v : V} {d : D} (w : Wd K mg H ρ μ) (r : Rm K mg H ρ μ v d) (h : tyOf T μ d = true) : tyV K T v H := by
  cases r with
  | str x =>
    have h0 : decide (T = "str") = true := h
    have e : T = "str" := of_decide_eq_true h0
    exact e
  | lst f rl =>
    obtain ⟨h1, _⟩ := Bool.and_eq_true_iff.mp h
    exact .inl ⟨of_decide_eq_true h1, _, f.sq⟩
  | cel hc =>
    rename_i a i
    obtain ⟨h1, h2⟩ := Bool.and_eq_true_iff.mp h
    obtain ⟨ds, h3⟩ := Option.isSome_iff_exists.mp h2
    obtain ⟨b, vs, e1, e2, _⟩ := lstOf_ok w (.cel hc) h3
    cases e1
    exact .inl ⟨of_decide_eq_true h1, vs, .inl e2⟩
  | _ => exact nomatch (Bool.and_eq_true_iff.mp h).2
def MtMm (K : PySem.W.Frag) (mg : Str → Option Value) (r : V → List V → Hp → VK → Prop) (g : D → List D → M D) : Prop :=
  ∀ (H : Hp) (ρ : Lc) (μ : Mem) (x : V) (vs : List V) (d : D) (ds : List D) (Q : VK) (E : XK), Wd K mg H ρ μ → Rm K mg H ρ μ x d → RLm K mg H ρ μ vs ds → Post K mg (g d ds μ) H ρ μ Q E → r x vs H Q
def mMeth (T : String) (g : D → List D → M D) (o : ME) (a : ML) : ME := fun env μ => (o env μ).bind fun x μ1 => if tyOf T μ1 x then (a env μ1).bind fun ds => g x ds else .no
section
variable {X : Cx} {W : WX} {o e : Expr} {es : List Expr} {mo : ME} {ml : ML} {name : Str} {apos cpos : Pos} {T id : String} {r : V → List V → Hp → VK → Prop} {g : D → List D → M D}
theorem se_meth (pa : PlainAttrs T) (slot : Slot T name id) (hty : typeOf (.builtin id) = pure (.type "method_descriptor")) (hm : MtR X id r) (hg : MtMm X.K X.mg r g) (ho : SE X W o mo) (ha : SA X W (e :: es) ml)
    (h1 : attributeBase o name X.env (eval o X.env) = eval o X.env := by rfl)
    (h2 : (((backTo cpos (starEach (e :: es) X.env)).all fun x => !x.1) && ((backToKw cpos (keywordEach [] X.env)).all fun x => x.1.isSome) && decide (((e :: es).length + ([] : List Keyword).length + if ([] : List Keyword).isEmpty = true then 0 else 1) < 30)) = true := by rfl)
    (h3 : (apos.endLine == cpos.line) = true := by rfl) (h4 : starEach (e :: es) X.env = (false, eval e X.env) :: starEach es X.env := by rfl) (h5 : ((backTo cpos (starEach es X.env)).any fun x => x.1) = false := by rfl) :
    SE X W (.Call (.Attribute o name apos) (e :: es) [] cpos) (mMeth T g mo ml) := by
  refine PE.imp (pe_bm pa slot hty hm ho ha h1 h2 h3 h4 h5) fun σ H Q ⟨ρ, μ, env, w, re, p⟩ => ?_
  refine ⟨ρ, μ, env, w, re, Post.imp (post_bind p) (fun v H1 ⟨d, ρ1, μ1, e1, w1, r1, p1⟩ => ?_) fun _ _ _ z => z⟩
  by_cases ht : tyOf T μ1 d = true
  · rw [if_pos ht] at p1
    refine ⟨tyOf_ok w1 r1 ht, ρ1, μ1, env, w1, re.mono e1, PostL.imp (postL_bind p1) (fun vs H2 ⟨ds, ρ2, μ2, e2, w2, r2, p2⟩ => ?_) fun _ _ _ z => z⟩
    exact hg H2 ρ2 μ2 v vs d ds Q _ w2 (r1.mono e2.x) r2 p2
  · rw [if_neg ht] at p1
    exact False.elim p1
theorem se_meth0 (pa : PlainAttrs T) (slot : Slot T name id) (hty : typeOf (.builtin id) = pure (.type "method_descriptor")) (hm : MtR X id r) (hg : MtMm X.K X.mg r g) (ho : SE X W o mo)
    (hbase : attributeBase o name X.env (eval o X.env) = eval o X.env := by rfl) (hline : (apos.endLine == cpos.line) = true := by rfl) :
    SE X W (.Call (.Attribute o name apos) [] [] cpos) (mMeth T g mo mNil) := by
  refine PE.imp (pe_bm0 pa slot hty hm ho hbase hline) fun σ H Q ⟨ρ, μ, env, w, re, p⟩ => ?_
  refine ⟨ρ, μ, env, w, re, Post.imp (post_bind p) (fun v H1 ⟨d, ρ1, μ1, e1, w1, r1, p1⟩ => ?_) fun _ _ _ z => z⟩
  by_cases ht : tyOf T μ1 d = true
  · rw [if_pos ht] at p1
    exact ⟨tyOf_ok w1 r1 ht, hg H1 ρ1 μ1 v [] d [] Q _ w1 r1 .nil p1⟩
  · rw [if_neg ht] at p1
    exact False.elim p1
end
def gAppend : D → List D → M D := fun d ds μ => match celL μ d, ds with
  | some (i, xs), [y] => if xs.length < lim then .ok .non (μ.set i (some (.lst (xs ++ [y])))) else .no
  | _, _ => .no
theorem m_append : MtMm K mg rAppend gAppend := by
  intro H ρ μ x vs d ds Q E w rx rv p
  unfold gAppend at p
  split at p
  · rename_i i xs y h
    split at p
    · rename_i hl
      obtain ⟨a, ws, e1, e2, hc, hm, hH, rl⟩ := celL_ok w rx h
      cases rv with
      | cons r t =>
        cases t
        exact ⟨a, ws, _, e1, rfl, hH, by rw [rl.length]; exact lim_lt (Nat.le_of_lt hl), set_lst w hc hm (rl.append (.one r)) .non p⟩
    · exact False.elim p
  · exact False.elim p
def gPop : D → List D → M D := fun d ds μ => match celL μ d, ds with
  | some (i, xs), [] => (match xs[xs.length - 1]? with
    | some y => .ok y (μ.set i (some (.lst xs.dropLast)))
    | none => .no)
  | _, _ => .no
theorem RL.dropLast {Lv : Addr → Prop} {cs : List Addr} {vs : List V} {ds : List D} (r : RL K mg H Lv cs vs ds) : RL K mg H Lv cs vs.dropLast ds.dropLast := by
  rw [List.dropLast_eq_take, List.dropLast_eq_take, r.length]
  exact r.take _
theorem m_pop : MtMm K mg rPop gPop := by
  intro H ρ μ x vs d ds Q E w rx rv p
  unfold gPop at p
  split at p
  · rename_i i xs h
    cases hy : xs[xs.length - 1]? with
    | none => rw [hy] at p; exact False.elim p
    | some y =>
      rw [hy] at p
      obtain ⟨a, ws, e1, e2, hc, hm, hH, rl⟩ := celL_ok w rx h
      cases rv
      obtain ⟨vy, h1, h2⟩ := rl.get hy
      exact ⟨a, ws, vy, e1, rfl, hH, by rw [rl.length]; exact h1, set_lst w hc hm rl.dropLast h2 p⟩
  · exact False.elim p
theorem RL.eraseIdx {Lv : Addr → Prop} {cs : List Addr} {vs : List V} {ds : List D} (r : RL K mg H Lv cs vs ds) (k : Nat) : RL K mg H Lv cs (vs.eraseIdx k) (ds.eraseIdx k) := by
  rw [List.eraseIdx_eq_take_drop_succ, List.eraseIdx_eq_take_drop_succ]
  exact (r.take k).append (r.drop (k + 1))
def gPopAt : D → List D → M D := fun d ds μ => match celL μ d, ds with
  | some (i, xs), [.int j] => if 0 ≤ j ∧ j < 2 ^ 62 then (match xs[j.toNat]? with
    | some y => .ok y (μ.set i (some (.lst (xs.eraseIdx j.toNat))))
    | none => .no) else .no
  | _, _ => .no
theorem m_popAt : MtMm K mg rPopAt gPopAt := by
  intro H ρ μ x vs d ds Q E w rx rv p
  unfold gPopAt at p
  split at p
  · rename_i i xs j h
    split at p
    · rename_i hj
      cases hy : xs[j.toNat]? with
      | none => rw [hy] at p; exact False.elim p
      | some y =>
        rw [hy] at p
        obtain ⟨a, ws, e1, e2, hc, hm, hH, rl⟩ := celL_ok w rx h
        cases rv with
        | cons r t =>
          cases t
          cases r
          obtain ⟨vy, h1, h2⟩ := rl.get hy
          have hl : j.toNat < ws.length := (List.getElem?_eq_some_iff.mp h1).1
          refine ⟨a, ws, j, j.toNat, vy, e1, rfl, hH, by omega, by omega, ?_, h1, set_lst w hc hm (rl.eraseIdx _) h2 p⟩
          unfold seqIndex?
          first
            | (rw [if_pos (by omega)]; rw [if_pos (by omega)])
            | simp [show ¬ j < 0 by omega, show j < ws.length by omega]
            | omega
    · exact False.elim p
  · exact False.elim p
def gClear : D → List D → M D := fun d ds μ => match celL μ d, ds with
  | some (i, xs), [] => .ok .non (μ.set i (some (.lst [])))
  | _, _ => .no
theorem m_clear : MtMm K mg rClear gClear := by
  intro H ρ μ x vs d ds Q E w rx rv p
  unfold gClear at p
  split at p
  · rename_i i xs h
    obtain ⟨a, ws, e1, e2, hc, hm, hH, rl⟩ := celL_ok w rx h
    cases rv
    exact ⟨a, ws, e1, rfl, hH, set_lst w hc hm .nil .non p⟩
  · exact False.elim p
def gInsert : D → List D → M D := fun d ds μ => match celL μ d, ds with
  | some (i, xs), [.int j, y] => if (xs.length < lim ∧ 0 ≤ j ∧ j < 2 ^ 62) then .ok .non (μ.set i (some (.lst (xs.take j.toNat ++ [y] ++ xs.drop j.toNat)))) else .no
  | _, _ => .no
theorem m_insert : MtMm K mg (fun x vs H Q => ∃ (l : Addr) (xs : List V) (i : Int) (y : V), x = .ref l ∧ vs = [.int i, y] ∧ H l = some (.lst xs) ∧ xs.length < sizeLine ∧ 0 ≤ i ∧ i < 2 ^ 63 ∧ Q .non (upd H l (.lst (xs.take i.toNat ++ [y] ++ xs.drop i.toNat)))) gInsert := by
  intro H ρ μ x vs d ds Q E w rx rv p
  unfold gInsert at p
  split at p
  · rename_i i xs j y h
    split at p
    · rename_i hj
      obtain ⟨a, ws, e1, e2, hc, hm, hH, rl⟩ := celL_ok w rx h
      cases rv with
      | cons r t =>
        cases t with
        | cons r2 t =>
          cases t
          cases r
          exact ⟨a, ws, j, _, e1, rfl, hH, by rw [rl.length]; exact lim_lt (Nat.le_of_lt hj.1), hj.2.1, by omega, set_lst w hc hm (((rl.take _).append (.one r2)).append (rl.drop _)) .non p⟩
    · exact False.elim p
  · exact False.elim p
/-- xs.remove(k), ints -/
def asInts : List D → Option (List Int)
  | [] => some []
  | .int i :: ds => (asInts ds).map (i :: ·)
  | _ => none
theorem asInts_eq : ∀ {ds : List D} {ns : List Int}, asInts ds = some ns → ds = ns.map D.int
  | [], ns, h => by have e := Option.some.inj h; subst e; rfl
  | .int i :: ds, ns, h => by
    have h1 : (asInts ds).map (i :: ·) = some ns := h
    cases h2 : asInts ds with
    | none => rw [h2] at h1; exact nomatch h1
    | some ms =>
      rw [h2] at h1
      have e := Option.some.inj h1
      subst e
      rw [asInts_eq h2]
      rfl
  | .non :: _, _, h => nomatch (show (none : Option (List Int)) = _ from h)
  | .bl _ :: _, _, h => nomatch (show (none : Option (List Int)) = _ from h)
  | .str _ :: _, _, h => nomatch (show (none : Option (List Int)) = _ from h)
  | .lst _ :: _, _, h => nomatch (show (none : Option (List Int)) = _ from h)
  | .tup _ :: _, _, h => nomatch (show (none : Option (List Int)) = _ from h)
  | .dct _ _ :: _, _, h => nomatch (show (none : Option (List Int)) = _ from h)
  | .ins _ _ :: _, _, h => nomatch (show (none : Option (List Int)) = _ from h)
  | .cel _ :: _, _, h => nomatch (show (none : Option (List Int)) = _ from h)
  | .ty _ :: _, _, h => nomatch (show (none : Option (List Int)) = _ from h)
theorem RL.ints {Lv : Addr → Prop} {cs : List Addr} : ∀ {vs : List V} {ns : List Int}, RL K mg H Lv cs vs (ns.map D.int) → vs = ns.map V.int
  | [], [], _ => rfl
  | [], _ :: _, h => nomatch h
  | _ :: _, [], h => nomatch h
  | v :: vs, n :: ns, .cons r t => by
    cases r
    rw [RL.ints t]
    rfl
theorem RL.ofInts {Lv : Addr → Prop} {cs : List Addr} : ∀ (ns : List Int), RL K mg H Lv cs (ns.map V.int) (ns.map D.int)
  | [] => .nil
  | n :: ns => .cons (.int n) (RL.ofInts ns)
def gRemove : D → List D → M D := fun d ds μ => match celL μ d, ds with
  | some (i, xs), [.int k] => (match asInts xs with
    | some ns => if k ∈ ns then .ok .non (μ.set i (some (.lst ((ns.erase k).map .int)))) else .no
    | none => .no)
  | _, _ => .no
theorem idxOf_first {ns : List Int} {k : Int} (h : k ∈ ns) : ∃ j, ns[j]? = some k ∧ (∀ m : Nat, m < j → ns[m]? ≠ some k) ∧ ns.eraseIdx j = ns.erase k := by
  induction ns with
  | nil => exact nomatch h
  | cons n ns ih =>
    by_cases e : n = k
    · subst e
      exact ⟨0, rfl, fun m hm => absurd hm (Nat.not_lt_zero _), by simp⟩
    · have h' : k ∈ ns := by
        rcases List.mem_cons.mp h with z | z
        · exact absurd z.symm e
        · exact z
      obtain ⟨j, h1, h2, h3⟩ := ih h'
      refine ⟨j + 1, by simpa using h1, fun m hm => ?_, ?_⟩
      · cases m with
        | zero => simp [e]
        | succ m => simpa using h2 m (by omega)
      · rw [List.eraseIdx_cons_succ, h3, List.erase_cons_tail (by simpa using e)]
theorem m_remove : MtMm K mg rRemI gRemove := by
  intro H ρ μ x vs d ds Q E w rx rv p
  unfold gRemove at p
  split at p
  · rename_i i xs k h
    cases hn : asInts xs with
    | none => rw [hn] at p; exact False.elim p
    | some ns =>
      rw [hn] at p
      dsimp only at p
      split at p
      · rename_i hk
        obtain ⟨a, ws, e1, e2, hc, hm, hH, rl⟩ := celL_ok w rx h
        have ex := asInts_eq hn
        subst ex
        have ew := rl.ints
        subst ew
        obtain ⟨j, h1, h2, h3⟩ := idxOf_first hk
        cases rv with
        | cons r t =>
          cases t
          cases r
          exact ⟨a, ns, k, j, e1, rfl, hH, h1, h2, set_lst w hc hm (by rw [h3]; exact RL.ofInts _) .non p⟩
      · exact False.elim p
  · exact False.elim p
end
end CL

namespace CL
open PySem L2 PySem.Spec PyProof.Rows
theorem PE.or {X : Cx} {e : Expr} {t t' : TE} (h : PE X e t) (h' : PE X e t') : PE X e (fun σ H Q => t σ H Q ∨ t' σ H Q) := ⟨fun pins s σ H Q I q => by
  rcases q with q | q
  · exact h.run pins s σ H Q I q
  · exact h'.run pins s σ H Q I q⟩
theorem PS.or {X : Cx} {e : Stmt} {t t' : TS} (h : PS X e t) (h' : PS X e t') : PS X e (fun D σ H => t D σ H ∨ t' D σ H) := ⟨fun pins s σ H D I q => by
  rcases q with q | q
  · exact h.run pins s σ H D I q
  · exact h'.run pins s σ H D I q⟩
section
variable {K : PySem.W.Frag} {mg : Str → Option Value} {H H1 : Hp} {ρ ρ1 : Lc} {μ μ1 : Mem} {E : XK}
/-- a key as the library has it: an int, a text -/
def toK : D → Option Key
  | .int i => some (.inl i)
  | .str x => some (.inr x)
  | _ => none
def toKs : List D → Option (List Key)
  | [] => some []
  | d :: ds => match toK d, toKs ds with
    | some k, some ks => some (k :: ks)
    | _, _ => none
theorem toK_eq : ∀ {d : D} {k : Key}, toK d = some k → d = kD k
  | .int i, k, h => by have e := Option.some.inj h; subst e; rfl
  | .str i, k, h => by have e := Option.some.inj h; subst e; rfl
  | .non, _, h => nomatch (show (none : Option Key) = _ from h)
  | .bl _, _, h => nomatch (show (none : Option Key) = _ from h)
  | .lst _, _, h => nomatch (show (none : Option Key) = _ from h)
  | .tup _, _, h => nomatch (show (none : Option Key) = _ from h)
  | .dct _ _, _, h => nomatch (show (none : Option Key) = _ from h)
  | .ins _ _, _, h => nomatch (show (none : Option Key) = _ from h)
  | .cel _, _, h => nomatch (show (none : Option Key) = _ from h)
  | .ty _, _, h => nomatch (show (none : Option Key) = _ from h)
theorem R.key {Lv : Addr → Prop} {cs : List Addr} {v : V} {k : Key} (r : R K mg H Lv cs v (kD k)) : v = kV k := by
  cases k with
  | inl i => cases r; rfl
  | inr x => cases r; rfl
theorem R.ofKey {Lv : Addr → Prop} {cs : List Addr} (k : Key) : R K mg H Lv cs (kV k) (kD k) := by
  cases k with
  | inl i => exact .int i
  | inr x => exact .str x
theorem toKs_eq : ∀ {ds : List D} {ks : List Key}, toKs ds = some ks → ds = ks.map kD
  | [], ks, h => by have e := Option.some.inj h; subst e; rfl
  | d :: ds, ks, h => by
    unfold toKs at h
    cases h1 : toK d with
    | none => rw [h1] at h; exact nomatch h
    | some k =>
      cases h2 : toKs ds with
      | none => rw [h1, h2] at h; exact nomatch h
      | some ls =>
        rw [h1, h2] at h
        have e := Option.some.inj h
        subst e
        rw [toK_eq h1, toKs_eq h2]
        rfl
theorem RL.keys {Lv : Addr → Prop} {cs : List Addr} : ∀ {vs : List V} {ks : List Key}, RL K mg H Lv cs vs (ks.map kD) → vs = ks.map kV
  | [], [], _ => rfl
  | [], _ :: _, h => nomatch h
  | _ :: _, [], h => nomatch h
  | v :: vs, k :: ks, .cons r t => by
    rw [r.key, RL.keys t]
    rfl
theorem kD_inj {a b : Key} (h : kD a = kD b) : a = b := by
  cases a with
  | inl i => cases b with
    | inl j => rw [D.int.inj h]
    | inr x => exact nomatch h
  | inr x => cases b with
    | inl j => exact nomatch h
    | inr y => rw [D.str.inj h]
theorem kDs_inj : ∀ {a b : List Key}, a.map kD = b.map kD → a = b
  | [], [], _ => rfl
  | [], _ :: _, h => nomatch h
  | _ :: _, [], h => nomatch h
  | x :: a, y :: b, h => by
    have h' : kD x :: a.map kD = kD y :: b.map kD := h
    injection h' with h1 h2
    rw [kD_inj h1, kDs_inj h2]
def dget (kds : List (D × D)) (k : D) : Option D := (kds.find? fun p => decide (p.1 = k)).map (·.2)
def dput (kds : List (D × D)) (k v : D) : List (D × D) := if (kds.any fun p => decide (p.1 = k)) = true then kds.map (fun p => if p.1 = k then (p.1, v) else p) else kds ++ [(k, v)]
section
variable {κ : Type} [DecidableEq κ] {f : κ → D} (hf : ∀ a b, f a = f b → a = b) {Lv : Addr → Prop} {cs : List Addr}
theorem dget_rel (hf : ∀ a b, f a = f b → a = b) : ∀ {kvs : List (κ × V)} {ds : List D}, RL K mg H Lv cs (kvs.map (·.2)) ds → ∀ (k : κ), (∀ v, valV kvs k = some v → ∃ d, dget ((kvs.map fun p => f p.1).zip ds) (f k) = some d ∧ R K mg H Lv cs v d) ∧ (valV kvs k = none → dget ((kvs.map fun p => f p.1).zip ds) (f k) = none)
  | [], _, _, k => ⟨(fun v h => nomatch h), fun _ => rfl⟩
  | p :: kvs, _, .cons (ds := ds) (d := d) r t, k => by
    have ih := dget_rel hf t k
    have hd : dget (((p :: kvs).map fun p => f p.1).zip (d :: ds)) (f k) = if f p.1 = f k then some d else dget ((kvs.map fun p => f p.1).zip ds) (f k) := by
      unfold dget
      rw [List.map_cons, List.zip_cons_cons, List.find?_cons]
      by_cases e : f p.1 = f k
      · simp [e]
      · simp [e]
    by_cases e : p.1 = k
    · rw [hd, if_pos (by rw [e])]
      refine ⟨fun v h => ?_, fun h => ?_⟩
      · rw [valV_pos e] at h
        have := Option.some.inj h
        subst this
        exact ⟨d, rfl, r⟩
      · rw [valV_pos e] at h
        exact nomatch h
    · rw [hd, if_neg fun z => e (hf _ _ z), valV_neg e]
      exact ih
theorem dput_rel (hf : ∀ a b, f a = f b → a = b) {v : V} {d : D} (rv : R K mg H Lv cs v d) {kvs : List (κ × V)} {ds : List D} (rl : RL K mg H Lv cs (kvs.map (·.2)) ds) (k : κ) :
    ∃ ds', RL K mg H Lv cs ((putK kvs k v).map (·.2)) ds' ∧ dput ((kvs.map fun p => f p.1).zip ds) (f k) d = ((putK kvs k v).map fun p => f p.1).zip ds' := by
  have any_eq : ∀ {kvs : List (κ × V)} {ds : List D}, RL K mg H Lv cs (kvs.map (·.2)) ds → (((kvs.map fun p => f p.1).zip ds).any fun p => decide (p.1 = f k)) = kvs.any fun p => decide (p.1 = k) := by
    intro kvs
    induction kvs with
    | nil => intro ds h; cases h; rfl
    | cons p kvs ih =>
      intro ds h
      cases h with
      | cons r t =>
        rw [List.map_cons, List.zip_cons_cons, List.any_cons, List.any_cons, ih t]
        have e : decide (f p.1 = f k) = decide (p.1 = k) := by
          by_cases e : p.1 = k
          · simp [e]
          · have : ¬ f p.1 = f k := fun z => e (hf _ _ z)
            simp [e, this]
        rw [e]
  have upd_eq : ∀ {kvs : List (κ × V)} {ds : List D}, RL K mg H Lv cs (kvs.map (·.2)) ds → ∃ ds', RL K mg H Lv cs ((kvs.map fun kv => if kv.1 = k then (kv.1, v) else kv).map (·.2)) ds' ∧
      ((kvs.map fun p => f p.1).zip ds).map (fun p => if p.1 = f k then (p.1, d) else p) = ((kvs.map fun kv => if kv.1 = k then (kv.1, v) else kv).map fun p => f p.1).zip ds' := by
    intro kvs
    induction kvs with
    | nil => intro ds h; cases h; exact ⟨[], .nil, rfl⟩
    | cons p kvs ih =>
      intro ds h
      cases h with
      | @cons _ d0 _ ds r t =>
        obtain ⟨ds', h1, h2⟩ := ih t
        by_cases e : p.1 = k
        · refine ⟨d :: ds', ?_, ?_⟩
          · rw [List.map_cons, if_pos e, List.map_cons]
            exact .cons rv h1
          · rw [List.map_cons, List.zip_cons_cons, List.map_cons, h2]
            have e2 : f p.1 = f k := by rw [e]
            simp [e]
        · refine ⟨d0 :: ds', ?_, ?_⟩
          · rw [List.map_cons, if_neg e, List.map_cons]
            exact .cons r h1
          · rw [List.map_cons, List.zip_cons_cons, List.map_cons, h2]
            have e2 : ¬ f p.1 = f k := fun z => e (hf _ _ z)
            simp [e, e2]
  unfold dput putK
  rw [any_eq rl]
  by_cases a : (kvs.any fun kv => decide (kv.1 = k)) = true
  · rw [if_pos a, if_pos a]
    exact upd_eq rl
  · rw [if_neg a, if_neg a]
    refine ⟨ds ++ [d], ?_, ?_⟩
    · rw [List.map_append]
      exact rl.append (.one rv)
    · have hl : (kvs.map fun p => f p.1).length = ds.length := by
        have := rl.length
        simpa using this
      rw [List.map_append, List.zip_append hl]
      rfl
end
/-- a key that a dict of this kind may be asked -/
def keyOk (t : Bool) (k : D) : Bool := match t, k with
  | true, .tup ds => (toKs ds).isSome && !ds.isEmpty
  | false, k => (toK k).isSome
  | _, _ => false
theorem dT_inj {a b : List Key} (h : D.tup (a.map kD) = D.tup (b.map kD)) : a = b := kDs_inj (D.tup.inj h)
/-- a value that reads as a dict -/
theorem dctOf_rd {x : V} {d : D} {t : Bool} {kds : List (D × D)} (w : Wd K mg H ρ μ) (rx : Rm K mg H ρ μ x d) (h : dctOf μ d = some (t, kds)) : ∃ a, x = .ref a ∧
    ((t = false ∧ ∃ kvs ds, Rd H a (.dK kvs) ∧ RLm K mg H ρ μ (kvs.map (·.2)) ds ∧ kds = (kvs.map fun p => kD p.1).zip ds) ∨ (t = true ∧ ∃ kvs ds, Rd H a (.dT kvs) ∧ RLm K mg H ρ μ (kvs.map (·.2)) ds ∧ kds = (kvs.map fun p => D.tup (p.1.map kD)).zip ds)) := by
  cases rx with
  | dK h1 n z r q =>
    have e := Option.some.inj h
    injection e with e1 e2
    subst e1 e2 z
    exact ⟨_, rfl, .inl ⟨rfl, _, _, h1, r, q⟩⟩
  | dT h1 n z r q =>
    have e := Option.some.inj h
    injection e with e1 e2
    subst e1 e2 z
    exact ⟨_, rfl, .inr ⟨rfl, _, _, h1, r, q⟩⟩
  | cel hc =>
    rename_i a i
    have h1 : (match μ[i]? with
      | some (some (.dct t ds)) => some (t, ds)
      | _ => none) = some (t, kds) := h
    cases hm : μ[i]? with
    | none => rw [hm] at h1; exact nomatch h1
    | some o =>
      rw [hm] at h1
      cases o with
      | none => exact nomatch h1
      | some d =>
        cases d with
        | dct t' es =>
          have e := Option.some.inj h1
          injection e with e1 e2
          subst e1 e2
          have c := w.cell i _ a hm hc
          cases t' with
          | false => obtain ⟨kvs, ds, h2, h3, h4⟩ := c; exact ⟨a, rfl, .inl ⟨rfl, kvs, ds, .inl h2, h3, h4⟩⟩
          | true => obtain ⟨kvs, ds, h2, h3, h4⟩ := c; exact ⟨a, rfl, .inr ⟨rfl, kvs, ds, .inl h2, h3, h4⟩⟩
        | _ => exact nomatch h1
  | _ => exact nomatch (show (none : Option (Bool × List (D × D))) = _ from h)
/-- a tuple of keys as it lies -/
theorem key_tup {y : V} {ls : List D} (ry : Rm K mg H ρ μ y (.tup ls)) (hk : keyOk true (.tup ls) = true) : ∃ (b : Addr) (kk : List Key), y = .ref b ∧ H b = some (.tup (kk.map kV)) ∧ ls = kk.map kD := by
  obtain ⟨hk1, hk2⟩ := Bool.and_eq_true_iff.mp (show ((toKs ls).isSome && !ls.isEmpty) = true from hk)
  obtain ⟨kk, hkk⟩ := Option.isSome_iff_exists.mp hk1
  have ek := toKs_eq hkk
  subst ek
  cases ry with
  | tup f rl =>
    have ev := rl.keys
    rcases f with ⟨f, _⟩ | ⟨f, _⟩
    · subst ev
      exact ⟨_, kk, rfl, f, rfl⟩
    · exfalso
      rw [f] at ev
      cases kk with
      | nil => exact absurd hk2 (by simp)
      | cons _ _ => exact nomatch ev
/-- a[y], y in a: what is there -/
theorem dctOf_get {x y : V} {d k : D} {t : Bool} {kds : List (D × D)} (w : Wd K mg H ρ μ) (rx : Rm K mg H ρ μ x d) (ry : Rm K mg H ρ μ y k) (h : dctOf μ d = some (t, kds)) (hk : keyOk t k = true) :
    ∃ a o, x = .ref a ∧ DGet H a y o ∧ (∀ v, o = some v → ∃ e, dget kds k = some e ∧ Rm K mg H ρ μ v e) ∧ (o = none → dget kds k = none) := by
  obtain ⟨a, e, hR⟩ := dctOf_rd w rx h
  refine ⟨a, ?_⟩
  rcases hR with ⟨et, kvs, ds, h1, h2, h3⟩ | ⟨et, kvs, ds, h1, h2, h3⟩
  · subst et
    obtain ⟨kk, hkk⟩ := Option.isSome_iff_exists.mp (show (toK k).isSome = true by cases k <;> exact hk)
    have ek := toK_eq hkk
    subst ek
    have ey := ry.key
    subst ey
    have q := dget_rel (f := kD) (fun _ _ z => kD_inj z) h2 kk
    refine ⟨valV kvs kk, e, .inl ⟨kvs, kk, h1, rfl, rfl⟩, fun v hv => ?_, fun hv => ?_⟩
    · subst h3; exact q.1 v hv
    · subst h3; exact q.2 hv
  · subst et
    cases k with
    | tup ls =>
      obtain ⟨b, kk, ey, hb, el⟩ := key_tup ry hk
      subst el
      have q := dget_rel (f := fun ks : List Key => D.tup (ks.map kD)) (fun _ _ z => dT_inj z) h2 kk
      refine ⟨valV kvs kk, e, .inr ⟨kvs, kk, _, h1, ey, hb, rfl⟩, fun v hv => ?_, fun hv => ?_⟩
      · subst h3; exact q.1 v hv
      · subst h3; exact q.2 hv
    | _ => exact nomatch hk
end
end CL

namespace CL
open PySem L2 PySem.Spec PyProof.Rows
section
variable {K : PySem.W.Frag} {mg : Str → Option Value} {H H1 : Hp} {ρ ρ1 : Lc} {μ μ1 : Mem} {E : XK}
/-- xs[i] -/
def atD (xs : List D) (i : Int) : Option D := (ixN xs.length i).bind fun j => xs[j]?
def seqIdx : D → D → M D := fun x y μ => match y with
  | .int i => (match lstOf μ x with
    | some xs => (match atD xs i with
      | some d => .ok d μ
      | none => .no)
    | none => (match x with
      | .tup xs => (match atD xs i with
        | some d => .ok d μ
        | none => .no)
      | .str z => if z.length ≤ lim then (match atI z.cps.toList i with
        | some c => .ok (.str ⟨#[c]⟩) μ
        | none => .no) else .no
      | _ => .no))
  | _ => .no
def dIdx : D → D → M D := fun x y μ => match dctOf μ x with
  | some (t, kds) => if keyOk t y then (match dget kds y with
    | some d => .ok d μ
    | none => .no) else .no
  | none => seqIdx x y μ
theorem RL.atI {Lv : Addr → Prop} {cs : List Addr} {vs : List V} {ds : List D} {i : Int} {d : D} (r : RL K mg H Lv cs vs ds) (h : atD ds i = some d) : ∃ v, atI vs i = some v ∧ R K mg H Lv cs v d := by
  unfold atD at h
  unfold L2.atI
  rw [r.length]
  cases e : ixN ds.length i with
  | none => rw [e] at h; exact nomatch h
  | some j =>
    rw [e] at h
    exact r.get h
theorem seqIdx_ok : OpM K mg (rIx K) seqIdx := by
  intro H ρ μ x y a b Q E w rx ry p
  unfold seqIdx at p
  cases ry with
  | int i =>
    dsimp only at p
    cases hx : lstOf μ a with
    | some xs =>
      rw [hx] at p
      dsimp only at p
      cases hd : atD xs i with
      | none => rw [hd] at p; exact False.elim p
      | some d =>
        rw [hd] at p
        obtain ⟨l, vs, e1, h1, r1⟩ := lstOf_ok w rx hx
        obtain ⟨v, h2, r2⟩ := r1.atI hd
        exact .inl ⟨l, vs, i, v, e1, rfl, .inl h1, h2, Post.ok w p r2⟩
    | none =>
      rw [hx] at p
      dsimp only at p
      cases rx with
      | tup f rl =>
        dsimp only at p
        rename_i a vs ds
        cases hd : atD ds i with
        | none => rw [hd] at p; exact False.elim p
        | some d =>
          rw [hd] at p
          obtain ⟨v, h2, r2⟩ := rl.atI hd
          exact .inr (.inl ⟨_, _, i, v, rfl, rfl, f.sq, h2, Post.ok w p r2⟩)
      | str z =>
        dsimp only at p
        split at p
        · rename_i hl
          cases hd : atI z.cps.toList i with
          | none => rw [hd] at p; exact False.elim p
          | some c =>
            rw [hd] at p
            exact .inr (.inr ⟨z, i, c, rfl, rfl, lim_line hl, hd, Post.ok w p (.str _)⟩)
        · exact False.elim p
      | _ => exact False.elim p
  | _ => exact False.elim p
section
variable {X : Cx} {W : WX} {a b e : Expr} {es : List Expr} {pos : Pos} {ma mb : ME} {ml : ML} {k : Nat}
theorem se_idx (hr : RmG k X.A) (ha : SE X W a ma) (hb : SE X W b mb) (hs : PlainIx b := by exact fun _ _ => rfl) (hs2 : NoSl b := by exact fun _ _ => rfl) : SE X W (.Subscript a b pos) (mBin dIdx ma mb) := by
  refine PE.imp (PE.or (pe_ix ix_seq ha hb hs) (pe_dget (hu_of hr.toRoom) ha hb hs2)) fun σ H Q ⟨ρ, μ, env, w, re, p⟩ => ?_
  -- which kind it is
  have key : (∀ d μ1 y μ2, ma env μ = .ok d μ1 → mb env μ1 = .ok y μ2 → dctOf μ2 d = none) ∨ (∃ d μ1 y μ2 z, ma env μ = .ok d μ1 ∧ mb env μ1 = .ok y μ2 ∧ dctOf μ2 d = some z) := by
    cases h1 : ma env μ with
    | ok d μ1 =>
      cases h2 : mb env μ1 with
      | ok y μ2 =>
        cases h3 : dctOf μ2 d with
        | none =>
          refine .inl fun d' m1 y' m2 e1 e2 => ?_
          injection e1 with z1 z2
          subst z1 z2
          rw [h2] at e2
          injection e2 with z3 z4
          subst z4
          exact h3
        | some z => exact .inr ⟨d, μ1, y, μ2, z, rfl, h2, h3⟩
      | ex c x m =>
        refine .inl fun d' m1 y' m2 e1 e2 => ?_
        injection e1 with z1 z2
        subst z1 z2
        rw [h2] at e2
        exact nomatch e2
      | no =>
        refine .inl fun d' m1 y' m2 e1 e2 => ?_
        injection e1 with z1 z2
        subst z1 z2
        rw [h2] at e2
        exact nomatch e2
    | ex c x m => exact .inl fun d' m1 y' m2 e1 e2 => (nomatch e1)
    | no => exact .inl fun d' m1 y' m2 e1 e2 => (nomatch e1)
  rcases key with key | ⟨d0, m1, y0, m2, ⟨t, kds⟩, k1, k2, k3⟩
  · refine .inl ⟨ρ, μ, env, w, re, ?_⟩
    have p1 := post_bind (k := fun x μ1 => (mb env μ1).bind fun y => dIdx x y) (r := ma env μ) p
    cases h1 : ma env μ with
    | ok d μ1 =>
      rw [h1] at p1
      intro v H1 ρ1 e1 w1 r1
      obtain ⟨d', ρ2, μ2, e2, w2, r2, p2⟩ := p1 v H1 ρ1 e1 w1 r1
      -- the same data
      have pp : Post X.K X.mg ((mb env μ1).bind fun y => dIdx d y) H1 ρ1 μ1 Q (fun c od H' => W c od σ H') := by
        have := p
        unfold mBin at this
        rw [h1] at this
        exact Post.base e1 this
      have p3 := post_bind pp
      refine ⟨ρ1, μ1, env, w1, re.mono e1, ?_⟩
      cases h2 : mb env μ1 with
      | ok y μ3 =>
        rw [h2] at pp
        intro v2 H2 ρ3 e3 w3 r3
        have p4 : Post X.K X.mg (dIdx d y μ3) H2 ρ3 μ3 Q _ := Post.base e3 pp
        have hn := key d μ1 y μ3 h1 h2
        unfold dIdx at p4
        rw [hn] at p4
        exact seqIdx_ok H2 ρ3 μ3 v v2 d y Q _ w3 (r1.mono e3.x) r3 p4
      | ex c x m => rw [h2] at pp; exact pp
      | no => rw [h2] at pp; exact pp
    | ex c x m => rw [h1] at p1; exact p1
    | no => rw [h1] at p1; exact p1
  · refine .inr ⟨ρ, μ, env, w, re, ?_⟩
    rw [k1]
    intro v H1 ρ1 e1 w1 r1
    refine ⟨ρ1, m1, env, w1, re.mono e1, ?_⟩
    rw [k2]
    intro v2 H2 ρ3 e3 w3 r3
    have pp : Post X.K X.mg (dIdx d0 y0 m2) H2 ρ3 m2 Q (fun c od H' => W c od σ H') := by
      have := p
      unfold mBin at this
      rw [k1] at this
      have this := Post.base e1 this
      have this : Post X.K X.mg ((mb env m1).bind fun y => dIdx d0 y) H1 ρ1 m1 Q _ := this
      rw [k2] at this
      exact Post.base e3 this
    unfold dIdx at pp
    rw [k3] at pp
    dsimp only at pp
    split at pp
    · rename_i hk
      obtain ⟨a', o, ea, g, g1, g2⟩ := dctOf_get w3 (r1.mono e3.x) r3 k3 hk
      cases o with
      | none => rw [g2 rfl] at pp; exact False.elim pp
      | some vv =>
        obtain ⟨dd, h1, h2⟩ := g1 vv rfl
        rw [h1] at pp
        exact ⟨a', vv, ea, g, Post.ok w3 pp h2⟩
    · exact False.elim pp
abbrev MO := CL.Env → M (Option Int)
def oNone : MO := fun _ μ => .ok none μ
def asPart : D → M (Option Int)
  | .int i, μ => .ok (some i) μ
  | _, _ => .no
def oSome (a : ME) : MO := fun env μ => (a env μ).bind asPart
def PostO (K : PySem.W.Frag) (mg : Str → Option Value) (r : Rs (Option Int)) (H : Hp) (ρ : Lc) (μ : Mem) (Q : Option Int → Hp → Prop) (E : XK) : Prop :=
  match r with
  | .ok b μ' => ∀ H' ρ', Exm H ρ μ H' ρ' μ' → Wd K mg H' ρ' μ' → Q b H'
  | .ex c x μ' => ∀ cls od H' ρ', Exm H ρ μ H' ρ' μ' → Wd K mg H' ρ' μ' → ExAt K mg H' ρ' μ' c x cls od → E cls od H'
  | .no => False
def tMO (K : PySem.W.Frag) (mg : Str → Option Value) (W : WX) (m : MO) : TO := fun σ H Q => ∃ ρ μ env, Wd K mg H ρ μ ∧ REnv K mg H ρ μ σ env ∧ PostO K mg (m env μ) H ρ μ Q (fun c od H' => W c od σ H')
abbrev SO (X : Cx) (W : WX) (e : Option Expr) (m : MO) : Prop := PO X e (tMO X.K X.mg W m)
theorem PO.imp {X : Cx} {e : Option Expr} {t t' : TO} (h : PO X e t) (i : ∀ σ H Q, t' σ H Q → t σ H Q) : PO X e t' := ⟨fun pins s σ H Q I q => h.run pins s σ H Q I (i σ H Q q)⟩
theorem so_none : SO X W none oNone := PO.imp po_none fun σ H Q ⟨ρ, μ, env, w, re, p⟩ => p H ρ Exm.refl w
theorem PostO.base {r : Rs (Option Int)} {Q : Option Int → Hp → Prop} (e : Exm H ρ μ H1 ρ1 μ1) (p : PostO K mg r H ρ μ Q E) : PostO K mg r H1 ρ1 μ1 Q E := by
  cases r with
  | ok d μ' => exact fun H' ρ' e' => p H' ρ' (e.trans e')
  | ex c x μ' => exact fun cls od H' ρ' e' => p cls od H' ρ' (e.trans e')
  | no => exact p
theorem so_some (h : SE X W e ma) : SO X W (some e) (oSome ma) := PO.imp (po_some h) fun σ H Q ⟨ρ, μ, env, w, re, p⟩ => by
  refine ⟨ρ, μ, env, w, re, ?_⟩
  unfold oSome at p
  cases h1 : ma env μ with
  | ok d m =>
    rw [h1] at p
    intro v H1 ρ1 e1 w1 r1
    have p1 : PostO X.K X.mg (asPart d m) H1 ρ1 m Q _ := PostO.base e1 p
    cases r1 with
    | int i => exact ⟨i, rfl, p1 H1 ρ1 Exm.refl w1⟩
    | _ => exact False.elim p1
  | ex c x m => rw [h1] at p; exact p
  | no => rw [h1] at p; exact p
def cutD (xs : List D) (lo hi : Option Int) : List D := (xs.drop (HT.sIx xs.length 0 lo)).take (HT.sIx xs.length xs.length hi - HT.sIx xs.length 0 lo)
/-- x[lo:hi] (k: what becomes of a new list) -/
def dSl (k : List D → M D) (x : D) (lo hi : Option Int) : M D := fun μ => match lstOf μ x with
  | some xs => k (cutD xs lo hi) μ
  | none => (match x with
    | .tup xs => .ok (.tup (cutD xs lo hi)) μ
    | .str z => if z.length ≤ lim then .ok (.str (cutS z lo hi)) μ else .no
    | _ => .no)
def mSl (k : List D → M D) (a : ME) (lo hi : MO) : ME := fun env μ => (a env μ).bind fun x μ1 => (lo env μ1).bind fun l μ2 => (hi env μ2).bind fun h => dSl k x l h
theorem RL.cut {Lv : Addr → Prop} {cs : List Addr} {vs : List V} {ds : List D} (r : RL K mg H Lv cs vs ds) (lo hi : Option Int) : RL K mg H Lv cs (cutV vs lo hi) (cutD ds lo hi) := by
  unfold cutV cutD
  rw [r.length]
  exact (r.drop _).take _
def rSlAll (K : PySem.W.Frag) : V → Option Int → Option Int → Hp → VK → Prop := fun x lo hi H Q => rSlL K x lo hi H Q ∨ rSlA K x lo hi H Q ∨ rSlS x lo hi H Q
theorem sl_all : SlR X (rSlAll X.K) := SlR.or sl_list (SlR.or sl_tupA sl_str)
theorem postO_st {σ : L2.St} {env : CL.Env} {r : Rs (Option Int)} {kk : Option Int → M D} {Q : VK} (re : REnv K mg H ρ μ σ env) (p : Post K mg (r.bind kk) H ρ μ Q E) :
    PostO K mg r H ρ μ (fun o H1 => ∃ ρ1 μ1, Exm H ρ μ H1 ρ1 μ1 ∧ Wd K mg H1 ρ1 μ1 ∧ Post K mg (kk o μ1) H1 ρ1 μ1 Q E) E := by
  cases r with
  | ok d μ' => exact fun H' ρ' e w => ⟨ρ', μ', e, w, Post.base e p⟩
  | ex c x μ' => exact p
  | no => exact p
theorem PostO.imp {r : Rs (Option Int)} {Q Q' : Option Int → Hp → Prop} {E' : XK} (p : PostO K mg r H ρ μ Q E) (h : ∀ v H', Q v H' → Q' v H') (hE : ∀ c o H', E c o H' → E' c o H') : PostO K mg r H ρ μ Q' E' := by
  cases r with
  | ok d μ' => exact fun H' ρ' e w => h _ _ (p H' ρ' e w)
  | ex c x μ' => exact fun cls od H' ρ' e w r => hE _ _ _ (p cls od H' ρ' e w r)
  | no => exact p
theorem se_slice {lo hi : Option Expr} {p2 : Pos} {k : List D → M D} {ol oh : MO} (hk : NewK k) (he : SE X W e ma) (hl : SO X W lo ol) (hh : SO X W hi oh) : SE X W (.Subscript e (.Slice lo hi none p2) pos) (mSl k ma ol oh) := by
  refine PE.imp (pe_slice sl_all he hl hh) fun σ H Q ⟨ρ, μ, env, w, re, p⟩ => ?_
  refine ⟨ρ, μ, env, w, re, Post.imp (post_bind p) (fun v H1 ⟨d, ρ1, μ1, e1, w1, r1, p1⟩ => ?_) fun _ _ _ z => z⟩
  refine ⟨ρ1, μ1, env, w1, re.mono e1, PostO.imp (postO_st (re.mono e1) p1) (fun l H2 ⟨ρ2, μ2, e2, w2, p2⟩ => ?_) fun _ _ _ z => z⟩
  refine ⟨ρ2, μ2, env, w2, (re.mono e1).mono e2, PostO.imp (postO_st ((re.mono e1).mono e2) p2) (fun h H3 ⟨ρ3, μ3, e3, w3, p3⟩ => ?_) fun _ _ _ z => z⟩
  have r3 := (r1.mono e2.x).mono e3.x
  unfold dSl at p3
  cases hx : lstOf μ3 d with
  | some xs =>
    rw [hx] at p3
    obtain ⟨a, vs, ea, h1, r4⟩ := lstOf_ok w3 r3 hx
    exact .inl ⟨a, vs, ea, .inl h1, hk _ _ _ _ _ _ _ _ _ w3 (r4.cut l h) p3⟩
  | none =>
    rw [hx] at p3
    dsimp only at p3
    cases r3 with
    | @tup a0 vs0 ds0 f rl =>
      dsimp only at p3
      refine .inr (.inl ⟨_, _, rfl, f.sq, fun hz => ?_, fun _ => Post.newT w3 (rl.cut l h) p3⟩)
      have hz2 := hz
      rw [rl.length] at hz2
      have e4 : cutD ds0 l h = ds0 := by
        unfold cutD
        rw [hz2.1, hz2.2]
        simp
      rw [e4] at p3
      exact Post.ok w3 p3 (.tup f rl)
    | str z =>
      dsimp only at p3
      split at p3
      · rename_i hl
        exact .inr (.inr ⟨z, rfl, lim_line hl, Post.ok w3 p3 (.str _)⟩)
      · exact False.elim p3
    | _ => exact False.elim p3
def dInD (neg : Bool) : D → D → M D := fun a b μ => match dctOf μ b with
  | some (t, kds) => if keyOk t a then .ok (.bl (if neg then !(dget kds a).isSome else (dget kds a).isSome)) μ else .no
  | none => .no
theorem se_inD {k : Nat} (hr : RmG k X.A) (ha : SE X W a ma) (hb : SE X W b mb) (hm : behindInMarks .In b = false := by rfl) : SE X W (.Compare a [.In] [b] pos) (mBin (dInD false) ma mb) := by
  refine PE.imp (pe_cmp (pc_din (hu_of hr.toRoom) ha hb) hm) fun σ H Q ⟨ρ, μ, env, w, re, p⟩ => ?_
  refine ⟨ρ, μ, env, w, re, Post.imp (post_bind p) (fun v H1 ⟨d, ρ1, μ1, e1, w1, r1, p1⟩ => ?_) fun _ _ _ z => z⟩
  refine ⟨ρ1, μ1, env, w1, re.mono e1, Post.imp (post_bind p1) (fun v2 H2 ⟨d2, ρ2, μ2, e2, w2, r2, p2⟩ => ?_) fun _ _ _ z => z⟩
  unfold dInD at p2
  cases hx : dctOf μ2 d2 with
  | none => rw [hx] at p2; exact False.elim p2
  | some z =>
    obtain ⟨t, kds⟩ := z
    rw [hx] at p2
    dsimp only at p2
    split at p2
    · rename_i hk
      obtain ⟨a', o, ea, g, g1, g2⟩ := dctOf_get w2 r2 (r1.mono e2.x) hx hk
      have eo : o.isSome = (dget kds d).isSome := by
        cases o with
        | none => rw [g2 rfl]; rfl
        | some vv =>
          obtain ⟨dd, h1, _⟩ := g1 vv rfl
          rw [h1]
          rfl
      refine ⟨a', o, ea, g, ?_⟩
      rw [eo]
      exact Post.ok w2 p2 (.bl _)
    · exact False.elim p2
theorem se_notinD {k : Nat} (hr : RmG k X.A) (ha : SE X W a ma) (hb : SE X W b mb) (hm : behindInMarks .NotIn b = false := by rfl) : SE X W (.Compare a [.NotIn] [b] pos) (mBin (dInD true) ma mb) := by
  refine PE.imp (pe_cmp (pc_dnotin (hu_of hr.toRoom) ha hb) hm) fun σ H Q ⟨ρ, μ, env, w, re, p⟩ => ?_
  refine ⟨ρ, μ, env, w, re, Post.imp (post_bind p) (fun v H1 ⟨d, ρ1, μ1, e1, w1, r1, p1⟩ => ?_) fun _ _ _ z => z⟩
  refine ⟨ρ1, μ1, env, w1, re.mono e1, Post.imp (post_bind p1) (fun v2 H2 ⟨d2, ρ2, μ2, e2, w2, r2, p2⟩ => ?_) fun _ _ _ z => z⟩
  unfold dInD at p2
  cases hx : dctOf μ2 d2 with
  | none => rw [hx] at p2; exact False.elim p2
  | some z =>
    obtain ⟨t, kds⟩ := z
    rw [hx] at p2
    dsimp only at p2
    split at p2
    · rename_i hk
      obtain ⟨a', o, ea, g, g1, g2⟩ := dctOf_get w2 r2 (r1.mono e2.x) hx hk
      have eo : o.isSome = (dget kds d).isSome := by
        cases o with
        | none => rw [g2 rfl]; rfl
        | some vv =>
          obtain ⟨dd, h1, _⟩ := g1 vv rfl
          rw [h1]
          rfl
      refine ⟨a', o, ea, g, ?_⟩
      rw [eo]
      exact Post.ok w2 p2 (.bl _)
    · exact False.elim p2
def dLen : List D → M D := fun ds μ => match ds with
  | [x] => (match lstOf μ x with
    | some xs => .ok (.int (xs.length : Nat)) μ
    | none => (match dctOf μ x with
      | some (t, kds) => .ok (.int (kds.length : Nat)) μ
      | none => (match x with
        | .tup xs => .ok (.int (xs.length : Nat)) μ
        | .str z => if z.length ≤ lim then .ok (.int (z.length : Nat)) μ else .no
        | _ => .no)))
  | _ => .no
def rLenK2 : List V → Hp → VK → Prop := fun xs H Q => ∃ a kvs, xs = [V.ref a] ∧ Rd H a (.dK kvs) ∧ Q (.int kvs.length) H
def rLenT2 : List V → Hp → VK → Prop := fun xs H Q => ∃ (p : Addr) (kvs : List (List Key × V)), xs = [.ref p] ∧ Rd H p (.dT kvs) ∧ Q (.int ((kvs.length : Nat) : Int)) H
theorem call_lenK2 : CallR X (.builtin "len") rLenK2 := by
  intro pins s σ H xs us Q I r h
  obtain ⟨a, kvs, rfl, ha, q⟩ := h
  obtain ⟨u, rfl, ru⟩ := vals1 r
  cases ru
  exact d_len I ha fun t s' I' => ⟨.int kvs.length, H, I', ⟨t, rfl⟩, q⟩
theorem call_lenT2 : CallR X (.builtin "len") rLenT2 := by
  intro pins s σ H xs us Q I r h
  obtain ⟨p, kvs, rfl, hp, q⟩ := h
  obtain ⟨u, rfl, rx⟩ := vals1 r
  obtain rfl : u = .ref p := rx
  obtain ⟨z, hd, ys, rel, dd⟩ := dt_rd I.hok hp
  have hl : kvs.length = ys.length := Paired.length rel
  refine call_len_dictH hd dd (by rw [← hl]; rw [sizeLine_eq] at z; omega) ?_
  rw [← hl]
  exact ⟨.int ((kvs.length : Nat) : Int), H, I.tok _, ⟨_, rfl⟩, q⟩
def rLenAll (K : PySem.W.Frag) : List V → Hp → VK → Prop := fun xs H Q => (∃ x n, xs = [x] ∧ LenV K x H n ∧ Q (.int n) H) ∨ rLenK2 xs H Q ∨ rLenT2 xs H Q
theorem call_lenAll : CallR X (.builtin "len") (rLenAll X.K) := CallR.or call_len (CallR.or call_lenK2 call_lenT2)
theorem zip_len {α : Type} {kvs : List (α × V)} {ds : List D} {f : α × V → D} {Lv : Addr → Prop} {cs : List Addr} (r : RL K mg H Lv cs (kvs.map (·.2)) ds) : ((kvs.map f).zip ds).length = kvs.length := by
  have := r.length
  simp at this
  simp [this]
theorem m_len : CallM K mg (rLenAll K) dLen := by
  intro H ρ μ vs ds Q E w r p
  unfold dLen at p
  split at p
  · rename_i x
    cases r with
    | cons rx t =>
      cases t
      cases hx : lstOf μ x with
      | some xs =>
        rw [hx] at p
        obtain ⟨l, ws, e1, h1, r1⟩ := lstOf_ok w rx hx
        subst e1
        refine .inl ⟨_, ws.length, rfl, .inl ⟨ws, .inl h1, rfl⟩, ?_⟩
        rw [r1.length]
        exact Post.ok w p (.int _)
      | none =>
        rw [hx] at p
        dsimp only at p
        cases hd : dctOf μ x with
        | some z =>
          obtain ⟨t, kds⟩ := z
          rw [hd] at p
          dsimp only at p
          obtain ⟨a, e, hR⟩ := dctOf_rd w rx hd
          subst e
          rcases hR with ⟨_, kvs, ds, h1, h2, h3⟩ | ⟨_, kvs, ds, h1, h2, h3⟩
          · refine .inr (.inl ⟨a, kvs, rfl, h1, ?_⟩)
            rw [h3, zip_len h2] at p
            exact Post.ok w p (.int _)
          · refine .inr (.inr ⟨a, kvs, rfl, h1, ?_⟩)
            rw [h3, zip_len h2] at p
            exact Post.ok w p (.int _)
        | none =>
          rw [hd] at p
          dsimp only at p
          cases rx with
          | tup f rl =>
            refine .inl ⟨_, _, rfl, .inr ⟨_, f.sq, rfl⟩, ?_⟩
            rw [rl.length]
            exact Post.ok w p (.int _)
          | str z =>
            dsimp only at p
            split at p
            · rename_i hl
              exact .inl ⟨_, _, rfl, ⟨lim_line hl, rfl⟩, Post.ok w p (.int _)⟩
            · exact False.elim p
          | _ => exact False.elim p
  · exact False.elim p
def dAbs : List D → M D := fun ds μ => match ds with
  | [.int i] => .ok (.int (if i < 0 then -i else i)) μ
  | _ => .no
theorem m_abs : CallM K mg (fun xs H Q => ∃ i, xs = [V.int i] ∧ Q (.int (if i < 0 then -i else i)) H) dAbs := by
  intro H ρ μ vs ds Q E w r p
  unfold dAbs at p
  split at p
  · cases r with
    | cons rx t =>
      cases t
      cases rx
      exact ⟨_, rfl, Post.ok w p (.int _)⟩
  · exact False.elim p
def dIntC : List D → M D := fun ds μ => match ds with
  | [.int i] => .ok (.int i) μ
  | [.bl k] => .ok (.int (if k then 1 else 0)) μ
  | _ => .no
theorem m_intc : CallM K mg (fun xs H Q => (∃ i, xs = [V.int i] ∧ Q (.int i) H) ∨ ∃ k : Bool, xs = [V.bl k] ∧ Q (.int (if k then 1 else 0)) H) dIntC := by
  intro H ρ μ vs ds Q E w r p
  unfold dIntC at p
  split at p
  · cases r with
    | cons rx t =>
      cases t
      cases rx
      exact .inl ⟨_, rfl, Post.ok w p (.int _)⟩
  · cases r with
    | cons rx t =>
      cases t
      cases rx
      exact .inr ⟨_, rfl, Post.ok w p (.int _)⟩
  · exact False.elim p
def dMax2 : List D → M D := fun ds μ => match ds with
  | [.int i, .int j] => .ok (.int (if j > i then j else i)) μ
  | _ => .no
def dMin2 : List D → M D := fun ds μ => match ds with
  | [.int i, .int j] => .ok (.int (if j < i then j else i)) μ
  | _ => .no
theorem m_max2 : CallM K mg (fun xs H Q => ∃ i j, xs = [V.int i, V.int j] ∧ Q (.int (if j > i then j else i)) H) dMax2 := by
  intro H ρ μ vs ds Q E w r p
  unfold dMax2 at p
  split at p
  · cases r with
    | cons rx t =>
      cases t with
      | cons ry t =>
        cases t
        cases rx
        cases ry
        exact ⟨_, _, rfl, Post.ok w p (.int _)⟩
  · exact False.elim p
theorem m_min2 : CallM K mg (fun xs H Q => ∃ i j, xs = [V.int i, V.int j] ∧ Q (.int (if j < i then j else i)) H) dMin2 := by
  intro H ρ μ vs ds Q E w r p
  unfold dMin2 at p
  split at p
  · cases r with
    | cons rx t =>
      cases t with
      | cons ry t =>
        cases t
        cases rx
        cases ry
        exact ⟨_, _, rfl, Post.ok w p (.int _)⟩
  · exact False.elim p
/-- list(xs) -/
def dListC (k : List D → M D) : List D → M D := fun ds μ => match ds with
  | [x] => (match lstOf μ x with
    | some xs => k xs μ
    | none => (match x with
      | .tup xs => k xs μ
      | _ => .no))
  | _ => .no
theorem m_listc {k : List D → M D} (hk : NewK k) : CallM K mg (fun xs H Q => ∃ p ys, xs = [V.ref p] ∧ (SqL K H p ys ∨ SqT K H p ys) ∧ ∀ l, H l = none → Q (.ref l) (upd H l (.lst ys))) (dListC k) := by
  intro H ρ μ vs ds Q E w r p
  unfold dListC at p
  split at p
  · rename_i x
    cases r with
    | cons rx t =>
      cases t
      cases hx : lstOf μ x with
      | some xs =>
        rw [hx] at p
        obtain ⟨l, ws, e1, h1, r1⟩ := lstOf_ok w rx hx
        subst e1
        exact ⟨l, ws, rfl, .inl (.inl h1), hk _ _ _ _ _ _ _ _ _ w r1 p⟩
      | none =>
        rw [hx] at p
        dsimp only at p
        cases rx with
        | tup f rl => exact ⟨_, _, rfl, .inr f.sq, hk _ _ _ _ _ _ _ _ _ w rl p⟩
        | _ => exact False.elim p
  · exact False.elim p
end
end
end CL

namespace CL
open PySem L2 PySem.Spec PyProof.Rows
section
variable {K : PySem.W.Frag} {mg : Str → Option Value} {H H1 : Hp} {ρ ρ1 : Lc} {μ μ1 : Mem} {E : XK}
theorem live_off {i : Nat} {a : Addr} (l : Live ρ (μ.set i none) a) : Live ρ μ a := by
  rcases l with l | ⟨j, e, h1, h2⟩
  · exact .inl l
  · by_cases hj : i = j
    · subst hj
      have hl : i < μ.length := by
        have := (List.getElem?_eq_some_iff.mp h2).1
        simpa using this
      rw [List.getElem?_set_self hl] at h2
      exact nomatch h2
    · rw [List.getElem?_set_ne hj] at h2
      exact .inr ⟨j, e, h1, h2⟩
theorem exx_off {i : Nat} : Exx H (Live ρ μ) ρ.cs H (Live ρ (μ.set i none)) ρ.cs := ⟨fun _ _ e _ => .inl e, fun _ _ _ l => live_off l, fun _ _ z => z⟩
theorem exm_off {i : Nat} : Exm H ρ μ H ρ (μ.set i none) := ⟨exx_off, rfl, fun _ _ => rfl⟩
theorem wd_off {i : Nat} (w : Wd K mg H ρ μ) : Wd K mg H ρ (μ.set i none) := by
  refine ⟨by simp [w.len], w.nd, w.trk, w.hid, fun j e b h1 h2 => ?_⟩
  by_cases hj : i = j
  · subst hj
    have hl : i < μ.length := by
      have := (List.getElem?_eq_some_iff.mp h1).1
      simpa using this
    rw [List.getElem?_set_self hl] at h1
    exact nomatch h1
  · rw [List.getElem?_set_ne hj] at h1
    exact (w.cell j e b h1 h2).mono exx_off rfl
theorem dead_off {i : Nat} {a : Addr} (w : Wd K mg H ρ μ) (hc : ρ.cs[i]? = some a) : ¬ Live ρ (μ.set i none) a := by
  rintro (l | ⟨j, e, h1, h2⟩)
  · exact (w.hid a l).2 (List.mem_of_getElem? hc)
  · have hi : i < ρ.cs.length := (List.getElem?_eq_some_iff.mp hc).1
    have hj : j < ρ.cs.length := (List.getElem?_eq_some_iff.mp h1).1
    have e1 : ρ.cs[i] = a := (List.getElem?_eq_some_iff.mp hc).2
    have e2 : ρ.cs[j] = a := (List.getElem?_eq_some_iff.mp h1).2
    have ej : i = j := (List.getElem_inj w.nd).mp (e1.trans e2.symm)
    subst ej
    rw [List.getElem?_set_self (by rw [← w.len]; exact hi)] at h2
    exact nomatch h2
/-- d, its mutable parts still from now on -/
def frzL (f : D → Mem → Option (D × Mem)) : List D → Mem → Option (List D × Mem)
  | [], μ => some ([], μ)
  | d :: ds, μ => match f d μ with
    | none => none
    | some (e, μ1) => match frzL f ds μ1 with
      | none => none
      | some (es, μ2) => some (e :: es, μ2)
def frz : Nat → D → Mem → Option (D × Mem)
  | 0, _, _ => none
  | n + 1, d, μ => match d with
    | .cel i => (match μ[i]? with
      | some (some (.lst ds)) => (match frzL (frz n) ds (μ.set i none) with
        | some (es, m) => some (.lst es, m)
        | none => none)
      | some (some (.dct t kds)) => (match frzL (frz n) (kds.map (·.2)) (μ.set i none) with
        | some (es, m) => some (.dct t ((kds.map (·.1)).zip es), m)
        | none => none)
      | some (some (.ins c fds)) => (match frzL (frz n) (fds.map (·.2)) (μ.set i none) with
        | some (es, m) => some (.ins c ((fds.map (·.1)).zip es), m)
        | none => none)
      | _ => none)
    | d => some (d, μ)
theorem frzL_ok {f : D → Mem → Option (D × Mem)} (hf : ∀ (v : V) (d e : D) (μ μ' : Mem), Wd K mg H ρ μ → Rm K mg H ρ μ v d → f d μ = some (e, μ') → Exm H ρ μ H ρ μ' ∧ Wd K mg H ρ μ' ∧ Rm K mg H ρ μ' v e) :
    ∀ {vs : List V} {ds es : List D} {μ μ' : Mem}, Wd K mg H ρ μ → RLm K mg H ρ μ vs ds → frzL f ds μ = some (es, μ') → Exm H ρ μ H ρ μ' ∧ Wd K mg H ρ μ' ∧ RLm K mg H ρ μ' vs es
  | _, _, es, μ, μ', w, .nil, h => by
    have e := Option.some.inj h
    injection e with e1 e2
    subst e1 e2
    exact ⟨Exm.refl, w, .nil⟩
  | _, _, es, μ, μ', w, .cons (d := d) (ds := ds) r t, h => by
    unfold frzL at h
    cases h1 : f d μ with
    | none => rw [h1] at h; exact nomatch h
    | some z =>
      obtain ⟨e, μ1⟩ := z
      rw [h1] at h
      dsimp only at h
      cases h2 : frzL f ds μ1 with
      | none => rw [h2] at h; exact nomatch h
      | some z2 =>
        obtain ⟨es2, μ2⟩ := z2
        rw [h2] at h
        have e0 := Option.some.inj h
        injection e0 with e1 e2
        subst e1 e2
        obtain ⟨x1, w1, r1⟩ := hf _ d e μ μ1 w r h1
        obtain ⟨x2, w2, r2⟩ := frzL_ok hf w1 (t.mono x1.x) h2
        exact ⟨x1.trans x2, w2, .cons (r1.mono x2.x) r2⟩
theorem map_zip2 {α : Type} {ks : List α} {ds : List D} (h : ks.length = ds.length) : (ks.zip ds).map (·.2) = ds ∧ (ks.zip ds).map (·.1) = ks := by
  constructor
  · rw [show ((fun x : α × D => x.2) = Prod.snd) from rfl, List.map_snd_zip (by omega)]
  · rw [show ((fun x : α × D => x.1) = Prod.fst) from rfl, List.map_fst_zip (by omega)]
theorem frz_ok : ∀ (n : Nat) (v : V) (d e : D) (μ μ' : Mem), Wd K mg H ρ μ → Rm K mg H ρ μ v d → frz n d μ = some (e, μ') → Exm H ρ μ H ρ μ' ∧ Wd K mg H ρ μ' ∧ Rm K mg H ρ μ' v e
  | 0, _, _, _, _, _, _, _, h => nomatch h
  | n + 1, v, d, e, μ, μ', w, r, h => by
    have ih := frz_ok n
    have keep : d = e ∧ μ = μ' → Exm H ρ μ H ρ μ' ∧ Wd K mg H ρ μ' ∧ Rm K mg H ρ μ' v e := fun ⟨z1, z2⟩ => by
      subst z1 z2
      exact ⟨Exm.refl, w, r⟩
    cases r with
    | cel hc =>
      rename_i a i
      unfold frz at h
      dsimp only at h
      cases hm : μ[i]? with
      | none => rw [hm] at h; exact nomatch h
      | some o =>
        rw [hm] at h
        cases o with
        | none => exact nomatch h
        | some d0 =>
          have nl := dead_off w hc
          have c := w.cell i d0 a hm hc
          cases d0 with
          | lst ds =>
            obtain ⟨vs, h1, h2⟩ := c
            dsimp only at h
            cases hf : frzL (frz n) ds (μ.set i none) with
            | none => rw [hf] at h; exact nomatch h
            | some z =>
              obtain ⟨es, m⟩ := z
              rw [hf] at h
              have e0 := Option.some.inj h
              injection e0 with e1 e2
              subst e1 e2
              obtain ⟨x2, w2, r2⟩ := frzL_ok ih (wd_off w) (h2.mono exx_off) hf
              exact ⟨exm_off.trans x2, w2, .lst ⟨.inl h1, x2.x.nl h1 nl⟩ r2⟩
          | dct t kds =>
            dsimp only at h
            cases hf : frzL (frz n) (kds.map (·.2)) (μ.set i none) with
            | none => rw [hf] at h; exact nomatch h
            | some z =>
              obtain ⟨es, m⟩ := z
              rw [hf] at h
              have e0 := Option.some.inj h
              injection e0 with e1 e2
              subst e1 e2
              cases t with
              | false =>
                obtain ⟨kvs, ds, h1, h2, h3⟩ := c
                have hl : (kvs.map fun p => kD p.1).length = ds.length := by
                  have := h2.length
                  simpa using this
                subst h3
                obtain ⟨q1, q2⟩ := map_zip2 hl
                rw [q1] at hf
                obtain ⟨x2, w2, r2⟩ := frzL_ok ih (wd_off w) (h2.mono exx_off) hf
                exact ⟨exm_off.trans x2, w2, .dK (.inl h1) (x2.x.nl h1 nl) rfl r2 (by rw [q2])⟩
              | true =>
                obtain ⟨kvs, ds, h1, h2, h3⟩ := c
                have hl : (kvs.map fun p => D.tup (p.1.map kD)).length = ds.length := by
                  have := h2.length
                  simpa using this
                subst h3
                obtain ⟨q1, q2⟩ := map_zip2 hl
                rw [q1] at hf
                obtain ⟨x2, w2, r2⟩ := frzL_ok ih (wd_off w) (h2.mono exx_off) hf
                exact ⟨exm_off.trans x2, w2, .dT (.inl h1) (x2.x.nl h1 nl) rfl r2 (by rw [q2])⟩
          | ins c' fds =>
            obtain ⟨C, dx, fs, ds, h1, h1b, h1c, h4, h2, h3⟩ := c
            dsimp only at h
            cases hf : frzL (frz n) (fds.map (·.2)) (μ.set i none) with
            | none => rw [hf] at h; exact nomatch h
            | some z =>
              obtain ⟨es, m⟩ := z
              rw [hf] at h
              have e0 := Option.some.inj h
              injection e0 with e1 e2
              subst e1 e2
              have hl : (fs.map (·.1)).length = ds.length := by
                have := h2.length
                simpa using this
              subst h3
              obtain ⟨q1, q2⟩ := map_zip2 hl
              rw [q1] at hf
              obtain ⟨x2, w2, r2⟩ := frzL_ok ih (wd_off w) (h2.mono exx_off) hf
              exact ⟨exm_off.trans x2, w2, .ins h1 (x2.x.nl h1 nl) h4 rfl r2 (by rw [q2])⟩
          | _ => exact nomatch h
    | _ =>
      have e0 := Option.some.inj h
      injection e0 with e1 e2
      exact keep ⟨e1, e2⟩
def dFrz : D → M D := fun d μ => match frz 4 d μ with
  | some (e, m) => .ok e m
  | none => .no
/-- the value, still from now on -/
def mFrz (a : ME) : ME := fun env μ => (a env μ).bind dFrz
theorem se_frz {X : Cx} {W : WX} {e : Expr} {ma : ME} (h : SE X W e ma) : SE X W e (mFrz ma) := by
  refine PE.imp h fun σ H Q ⟨ρ, μ, env, w, re, p⟩ => ?_
  refine ⟨ρ, μ, env, w, re, ?_⟩
  unfold mFrz at p
  cases h1 : ma env μ with
  | ok d μ1 =>
    rw [h1] at p
    intro v H1 ρ1 e1 w1 r1
    have p1 : Post X.K X.mg (dFrz d μ1) H1 ρ1 μ1 Q _ := Post.base e1 p
    unfold dFrz at p1
    cases hf : frz 4 d μ1 with
    | none => rw [hf] at p1; exact False.elim p1
    | some z =>
      obtain ⟨e2, m⟩ := z
      rw [hf] at p1
      obtain ⟨x2, w2, r2⟩ := frz_ok 4 v d e2 μ1 m w1 r1 hf
      exact p1 v H1 ρ1 x2 w2 r2
  | ex c x m => rw [h1] at p; exact p
  | no => rw [h1] at p; exact p

def asSeq : D → M Its := fun d μ => match d with
  | .tup ds => .ok ⟨ds, none⟩ μ
  | .str x => .ok ⟨signs x, none⟩ μ
  | d => asLst d μ
def iSeq (a : ME) : MI := fun env μ => (a env μ).bind asSeq
theorem PI.or {X : Cx} {tg e : Expr} {t t' : TI} (h : PI X tg e t) (h' : PI X tg e t') : PI X tg e (fun σ H R => t σ H R ∨ t' σ H R) := ⟨fun pins s σ H R I q => by
  rcases q with q | q
  · exact h.run pins s σ H R I q
  · exact h'.run pins s σ H R I q⟩
theorem si_seq {X : Cx} {W : WX} {tg l : Expr} {ml : ME} (hl : SE X W l ml) : SI X W tg l (iSeq ml) := by
  refine PI.imp (PI.or (si_list hl) (PI.or (si_tup hl) (si_str hl))) fun σ H R ⟨ρ, μ, env, w, re, p⟩ => ?_
  cases h1 : ml env μ with
  | ok d m =>
    unfold iSeq at p
    rw [h1] at p
    cases d with
    | tup ds => exact .inr (.inl ⟨ρ, μ, env, w, re, by unfold iTupM; rw [h1]; exact p⟩)
    | str x => exact .inr (.inr ⟨ρ, μ, env, w, re, by unfold iStrM; rw [h1]; exact p⟩)
    | _ => exact .inl ⟨ρ, μ, env, w, re, by unfold iLst; rw [h1]; exact p⟩
  | ex c x m => exact .inl ⟨ρ, μ, env, w, re, by unfold iSeq at p; unfold iLst; rw [h1] at p ⊢; exact p⟩
  | no => exact .inl ⟨ρ, μ, env, w, re, by unfold iSeq at p; rw [h1] at p; exact False.elim p⟩
def dIn (neg : Bool) : D → D → M D := fun a b μ => match dctOf μ b with
  | some _ => dInD neg a b μ
  | none => inOf neg a b μ
/-- two readings of one comparison, chosen by the data -/
theorem bin_or {W : WX} {ma mb : ME} {g1 g2 g : D → D → M D} {c : D → D → Mem → Bool} (h1 : ∀ a b μ, c a b μ = true → g a b μ = g1 a b μ) (h2 : ∀ a b μ, c a b μ = false → g a b μ = g2 a b μ) {σ : L2.St} {Q : VK}
    (h : tM K mg W (mBin g ma mb) σ H Q) : tM K mg W (mBin g1 ma mb) σ H Q ∨ tM K mg W (mBin g2 ma mb) σ H Q := by
  obtain ⟨ρ, μ, env, w, re, p⟩ := h
  unfold mBin at p
  cases e1 : ma env μ with
  | ok x m1 =>
    cases e2 : mb env m1 with
    | ok y m2 =>
      have p2 : Post K mg (g x y m2) H ρ μ Q (fun c od H' => W c od σ H') := by
        rw [e1] at p
        have p : Post K mg ((mb env m1).bind fun y => g x y) H ρ μ Q _ := p
        rw [e2] at p
        exact p
      cases hc : c x y m2 with
      | true =>
        rw [h1 x y m2 hc] at p2
        refine .inl ⟨ρ, μ, env, w, re, ?_⟩
        unfold mBin
        rw [e1]
        show Post K mg ((mb env m1).bind fun y => g1 x y) H ρ μ Q _
        rw [e2]
        exact p2
      | false =>
        rw [h2 x y m2 hc] at p2
        refine .inr ⟨ρ, μ, env, w, re, ?_⟩
        unfold mBin
        rw [e1]
        show Post K mg ((mb env m1).bind fun y => g2 x y) H ρ μ Q _
        rw [e2]
        exact p2
    | ex c x m =>
      refine .inl ⟨ρ, μ, env, w, re, ?_⟩
      unfold mBin
      rw [e1] at p ⊢
      have p : Post K mg ((mb env m1).bind fun y => g _ y) H ρ μ Q _ := p
      show Post K mg ((mb env m1).bind fun y => g1 _ y) H ρ μ Q _
      rw [e2] at p ⊢
      exact p
    | no =>
      rw [e1] at p
      have p : Post K mg ((mb env m1).bind fun y => g x y) H ρ μ Q _ := p
      rw [e2] at p
      exact False.elim p
  | ex c x m =>
    refine .inl ⟨ρ, μ, env, w, re, ?_⟩
    unfold mBin
    rw [e1] at p ⊢
    exact p
  | no => rw [e1] at p; exact False.elim p
section
variable {X : Cx} {W : WX} {a b e : Expr} {es : List Expr} {pos p : Pos} {ma mb : ME} {ml : ML} {k n : Nat}
theorem op_inA (hr : RmG k X.A) : OpR X (compareOp .In) (rInA X.K) := OpR.or op_inS (op_inD (by have := hr.un; omega))
theorem op_notInA (hr : RmG k X.A) : OpR X (compareOp .NotIn) (rNotInA X.K) := OpR.or op_notInS (op_notInD (by have := hr.un; omega))
theorem se_in (hr : RmG k X.A) (ha : SE X W a ma) (hb : SE X W b mb) (hm : behindInMarks .In b = false := by rfl) : SE X W (.Compare a [.In] [b] pos) (mBin (dIn false) ma mb) :=
  PE.imp (PE.or (se_inD hr ha hb hm) (se_cmpR (op_inA hr) m_in ha hb hm)) fun σ H Q h => bin_or (c := fun a b μ => (dctOf μ b).isSome) (fun a b μ hc => by unfold dIn; obtain ⟨z, hz⟩ := Option.isSome_iff_exists.mp hc; rw [hz]) (fun a b μ hc => by unfold dIn; cases hz : dctOf μ b with
    | none => rfl
    | some z => rw [hz] at hc; exact nomatch hc) h
theorem se_notin (hr : RmG k X.A) (ha : SE X W a ma) (hb : SE X W b mb) (hm : behindInMarks .NotIn b = false := by rfl) : SE X W (.Compare a [.NotIn] [b] pos) (mBin (dIn true) ma mb) :=
  PE.imp (PE.or (se_notinD hr ha hb hm) (se_cmpR (op_notInA hr) m_notin ha hb hm)) fun σ H Q h => bin_or (c := fun a b μ => (dctOf μ b).isSome) (fun a b μ hc => by unfold dIn; obtain ⟨z, hz⟩ := Option.isSome_iff_exists.mp hc; rw [hz]) (fun a b μ hc => by unfold dIn; cases hz : dctOf μ b with
    | none => rfl
    | some z => rw [hz] at hc; exact nomatch hc) h
/-- an expression whose value is a bool, as a test: any comparison too -/
theorem sb_of (h : SE X W e ma) (he : ∀ whole, isTrue e X.env whole = (do let v ← whole; standAt e.pos; holding [v] (truthy v)) := by intro _; rfl) : ST X W e (bVal ma) := sb_val h he

end
end
end CL

namespace CL
open PySem L2 PySem.Spec PyProof.Rows
section
variable {K : PySem.W.Frag} {mg : Str → Option Value} {H H1 : Hp} {ρ ρ1 : Lc} {μ μ1 : Mem} {E : XK}
/-- an instance's class and fields -/
def insOf (μ : Mem) : D → Option (Str × List (Str × D))
  | .ins c fs => some (c, fs)
  | .cel i => (match μ[i]? with
    | some (some (.ins c fs)) => some (c, fs)
    | _ => none)
  | _ => none
theorem insOf_ok {v : V} {d : D} {c : Str} {fds : List (Str × D)} (w : Wd K mg H ρ μ) (r : Rm K mg H ρ μ v d) (h : insOf μ d = some (c, fds)) :
    ∃ a C dx fs ds, v = .ref a ∧ H a = some (.ins C dx fs) ∧ mg c = some (.ref C) ∧ RLm K mg H ρ μ (fs.map (·.2)) ds ∧ fds = (fs.map (·.1)).zip ds := by
  cases r with
  | ins h1 h2 h3 h4 h5 h6 =>
    have e := Option.some.inj h
    injection e with e1 e2
    subst e1 e2 h4
    exact ⟨_, _, _, _, _, rfl, h1, h3, h5, h6⟩
  | @cel a i hc =>
    unfold insOf at h
    dsimp only at h
    cases hm : μ[i]? with
    | none => rw [hm] at h; exact nomatch h
    | some o =>
      rw [hm] at h
      cases o with
      | none => exact nomatch h
      | some d0 =>
        cases d0 with
        | ins c0 fds0 =>
          have e := Option.some.inj h
          injection e with e1 e2
          subst e1 e2
          obtain ⟨C, dx, fs, ds, h1, _, _, h4, h5, h6⟩ := w.cell i _ a hm hc
          exact ⟨a, C, dx, fs, ds, rfl, h1, h4, h5, h6⟩
        | _ => exact nomatch h
  | _ => exact nomatch h
theorem fld_rel {Lv : Addr → Prop} {cs : List Addr} {f : Str} : ∀ {fs : List (Str × V)} {ds : List D}, RL K mg H Lv cs (fs.map (·.2)) ds →
    (∀ d, ((fs.map (·.1)).zip ds).lookup f = some d → ∃ v, fs.lookup f = some v ∧ R K mg H Lv cs v d) ∧ (((fs.map (·.1)).zip ds).lookup f = none → fs.lookup f = none)
  | [], _, r => ⟨fun d e => (nomatch (show (none : Option D) = some d from e)), fun _ => rfl⟩
  | (g, x) :: fs, _, r => by
    cases r with
    | @cons v0 d0 vs ds r t =>
      obtain ⟨i1, i2⟩ := fld_rel (f := f) t
      by_cases hg : (f == g) = true
      · refine ⟨fun d e => ?_, fun e => ?_⟩
        · simp only [List.map_cons, List.zip_cons_cons, List.lookup, hg] at e ⊢
          have e1 := Option.some.inj e
          subst e1
          exact ⟨_, rfl, r⟩
        · simp only [List.map_cons, List.zip_cons_cons, List.lookup, hg] at e
          exact nomatch e
      · have hg' : (f == g) = false := by simpa using hg
        refine ⟨fun d e => ?_, fun e => ?_⟩
        · simp only [List.map_cons, List.zip_cons_cons, List.lookup, hg'] at e ⊢
          exact i1 d e
        · simp only [List.map_cons, List.zip_cons_cons, List.lookup, hg'] at e ⊢
          exact i2 e
/-- a field is written -/
def putD (f : Str) (d : D) : List (Str × D) → List (Str × D)
  | [] => [(f, d)]
  | (g, x) :: r => if g = f then (g, d) :: r else (g, x) :: putD f d r
theorem putD_rel {Lv : Addr → Prop} {cs : List Addr} {f : Str} {v : V} {d : D} (rv : R K mg H Lv cs v d) : ∀ {fs : List (Str × V)} {ds : List D}, RL K mg H Lv cs (fs.map (·.2)) ds →
    ∃ ds', RL K mg H Lv cs ((putF f v fs).map (·.2)) ds' ∧ putD f d ((fs.map (·.1)).zip ds) = ((putF f v fs).map (·.1)).zip ds'
  | [], _, r => by
    cases r
    exact ⟨[d], .cons rv .nil, rfl⟩
  | (g, x) :: fs, _, r => by
    cases r with
    | @cons v0 d0 vs ds r t =>
      unfold putF putD
      simp only [List.map_cons, List.zip_cons_cons]
      by_cases hg : g = f
      · rw [if_pos hg, if_pos hg]
        exact ⟨d :: ds, .cons rv t, rfl⟩
      · rw [if_neg hg, if_neg hg]
        obtain ⟨ds', r', e'⟩ := putD_rel rv t
        exact ⟨d0 :: ds', .cons r r', by simp only [List.map_cons, List.zip_cons_cons]; rw [e']⟩
theorem putD_len (f : Str) (d : D) : ∀ fs : List (Str × D), (putD f d fs).length ≤ fs.length + 1
  | [] => Nat.le_refl _
  | (g, x) :: r => by
    unfold putD
    split
    · simp
    · have := putD_len f d r
      simp only [List.length_cons]
      omega
/-- the class c has no attribute f -/
structure NoAt (K : PySem.W.Frag) (mg : Str → Option Value) (c f : Str) : Prop where
  ex : ∃ C, mg c = some (.ref C) ∧ Cls K C ∧ NoAttr K C f
/-- x.f, x of one of the classes cs -/
def dFld (cs : List Str) (f : Str) : D → M D := fun d μ => match insOf μ d with
  | some (c, fds) => if cs.contains c = true then (match fds.lookup f with
    | some x => .ok x μ
    | none => .no) else .no
  | none => .no
theorem zip_len2 {fs : List (Str × V)} {ds : List D} {Lv : Addr → Prop} {cs : List Addr} (r : RL K mg H Lv cs (fs.map (·.2)) ds) : ((fs.map (·.1)).zip ds).length = fs.length := by
  have := r.length
  rw [List.length_map] at this
  rw [List.length_zip, List.length_map]
  omega
section
variable {X : Cx} {W : WX} {o a b e : Expr} {es : List Expr} {pos : Pos} {mo ma mb : ME} {ml : ML} {k n : Nat} {cs : List Str} {f : Str}
theorem se_fld (hcs : ∀ c ∈ cs, NoAt X.K X.mg c f) (ho : SE X W o mo) (hb : attributeBase o f X.env (eval o X.env) = eval o X.env := by rfl) : SE X W (.Attribute o f pos) (mUn (dFld cs f) mo) := by
  refine PE.imp (pe_fld ho hb) fun σ H Q ⟨ρ, μ, env, w, re, p⟩ => ?_
  refine ⟨ρ, μ, env, w, re, Post.imp (post_bind p) (fun v H1 ⟨d, ρ1, μ1, e1, w1, r1, p1⟩ => ?_) fun _ _ _ z => z⟩
  unfold dFld at p1
  cases hi : insOf μ1 d with
  | none => rw [hi] at p1; exact False.elim p1
  | some z =>
    obtain ⟨c, fds⟩ := z
    rw [hi] at p1
    dsimp only at p1
    by_cases hc : cs.contains c = true
    · rw [if_pos hc] at p1
      obtain ⟨a, C, dx, fs, ds, rfl, ha, hm, rl, ez⟩ := insOf_ok w1 r1 hi
      cases hl : fds.lookup f with
      | none => rw [hl] at p1; exact False.elim p1
      | some x =>
        rw [hl] at p1
        rw [ez] at hl
        obtain ⟨v, hv, rv⟩ := (fld_rel rl).1 x hl
        obtain ⟨C', hm', cl, na⟩ := (hcs c (by simpa using hc)).ex
        have ec : C' = C := by
          have := hm'.symm.trans hm
          injection this with this
          injection this
        subst ec
        exact ⟨a, _, dx, fs, v, rfl, ha, cl, na, hv, Post.ok w1 p1 rv⟩
    · rw [if_neg hc] at p1
      exact False.elim p1
/-- the mutable instance at a has another field -/
theorem cell_ins {i : Nat} {a C dx : Addr} {c : Str} {fds fds' : List (Str × D)} {fs' : List (Str × V)} {ds' : List D} (w : Wd K mg H ρ μ) (hc : ρ.cs[i]? = some a) (hm : μ[i]? = some (some (.ins c fds))) (hd : H dx = some (.own a)) (nd : ¬ Live ρ μ dx) (hC : mg c = some (.ref C)) (r : RLm K mg H ρ μ (fs'.map (·.2)) ds')
    (ez : fds' = (fs'.map (·.1)).zip ds') (hda : dx ≠ a) : Exm H ρ μ (upd H a (.ins C dx fs')) ρ (μ.set i (some (.ins c fds'))) ∧ Wd K mg (upd H a (.ins C dx fs')) ρ (μ.set i (some (.ins c fds'))) := by
  have ex := exm_set (d' := .ins c fds') (o := .ins C dx fs') w hc hm
  refine ⟨ex, wd_set w hc hm ⟨C, dx, fs', ds', upd_same, (upd_ne hda).trans hd, ?_, hC, r.mono ex.x, ez⟩⟩
  exact fun z => nd ((live_set hm dx).mp z)
/-- o.f = value -/
def sFld (cs : List Str) (f : Str) (mo mv : ME) : MS := fun env μ => (mv env μ).st env fun y m1 => (mo env m1).st env fun x m2 => match x with
  | .cel i => (match m2[i]? with
    | some (some (.ins c fds)) => if cs.contains c = true ∧ fds.length < 1000 then .nx env (m2.set i (some (.ins c (putD f y fds)))) else .no
    | _ => .no)
  | _ => .no
theorem s_fld {value : Expr} {pos' : Pos} {mv : ME} (hcs : ∀ c ∈ cs, NoAt X.K X.mg c f) (ho : SE X W o mo) (hv : SE X W value mv) (hs : swapsWith value (some (.Attribute o f pos')) pos.line X.env = pure false := by rfl) : SS X W (.Assign [.Attribute o f pos'] value pos) (sFld cs f mo mv) := by
  refine PS.imp (ps_fld ho hv hs) fun Dn σ H ⟨ρ, μ, env, w, re, p⟩ => ?_
  refine ⟨ρ, μ, env, w, re, Post.imp (post_st re p) (fun y H1 ⟨dy, ρ1, μ1, e1, w1, re1, r1, p1⟩ => ?_) fun _ _ _ z => z⟩
  refine ⟨ρ1, μ1, env, w1, re1, Post.imp (post_st re1 p1) (fun x H2 ⟨d, ρ2, μ2, e2, w2, re2, r2, p2⟩ => ?_) fun _ _ _ z => z⟩
  cases r2 with
  | @cel a i hc =>
    dsimp only at p2
    cases hm : μ2[i]? with
    | none => rw [hm] at p2; exact False.elim p2
    | some ob =>
      rw [hm] at p2
      cases ob with
      | none => exact False.elim p2
      | some d0 =>
        cases d0 with
        | ins c fds =>
          dsimp only at p2
          by_cases hcc : cs.contains c = true ∧ fds.length < 1000
          · rw [if_pos hcc] at p2
            obtain ⟨C, dx, fs, ds, h1, h2, h3, h4, h5, h6⟩ := w2.cell i _ a hm hc
            obtain ⟨C', hm', cl, na⟩ := (hcs c (by simpa using hcc.1)).ex
            have ec : C' = C := by
              have := hm'.symm.trans h4
              injection this with this
              injection this
            subst ec
            have hda : dx ≠ a := fun z => by
              rw [z, h1] at h2
              exact nomatch h2
            obtain ⟨ds', r', e'⟩ := putD_rel (f := f) (r1.mono e2.x) h5
            refine ⟨a, _, dx, fs, rfl, h1, cl, na, ?_, ?_⟩
            · have := zip_len2 h5
              rw [← h6] at this
              omega
            · obtain ⟨x3, w3⟩ := cell_ins (fds' := putD f dy fds) w2 hc hm h2 h3 h4 r' (by rw [h6]; exact e') hda
              exact p2 σ _ ρ2 x3 w3 (re2.mono x3)
          · rw [if_neg hcc] at p2
            exact False.elim p2
        | _ => exact False.elim p2
  | _ => exact False.elim p2
end
end
end CL

namespace CL
open PySem L2 PySem.Spec PyProof.Rows
structure PC (X : Cx) (es : List Expr) (kws : List Keyword) (ks : List Str) (t tk : TA) : Prop where
  run : ∀ (pos : Pos) (pins : List (Addr × Obj)) (s : Shared) (σ : L2.St) (H : Hp) (f : Value) (first : List Value) (Q : Value → Shared → Prop), PySem.W.keepIn X.K f = true → Inv X pins σ H s →
    t σ H (fun vs H1 => tk σ H1 fun zs H2 => ∀ (us ws : List Value) (s2 : Shared), Inv X pins σ H2 s2 → Vals vs us → Vals zs ws →
      wpAny (model X.prog X.w) X.A (call f (first ++ us) (ks.zip ws)) Q X.xe s2) →
    wpAny (model X.prog X.w) X.A (callWith pos f first (backTo pos (starEach es X.env)) (backToKw pos (keywordEach kws X.env))) Q X.xe s
section
variable {X : Cx} {W : WX} {o e : Expr} {es : List Expr} {kws : List Keyword} {ks ps : List Str} {t tk : TA} {p pos apos : Pos} {k n : Nat}
theorem pc_some (ha : PA X (e :: es) t) (hkw : PK X kws tk) (hall : ∀ pos, (backToKw pos (keywordEach kws X.env)).all (·.1.isSome) = true := by intro _; rfl) (hks : ∀ pos, (backToKw pos (keywordEach kws X.env)).filterMap (·.1) = ks := by intro _; rfl)
    (he : starEach (e :: es) X.env = (false, eval e X.env) :: starEach es X.env := by rfl)
    (hpl : ∀ pos, ((backTo pos (starEach (e :: es) X.env)).any (·.1) || (backToKw pos (keywordEach kws X.env)).any (·.1.isNone)) = false := by intro _; rfl) : PC X (e :: es) kws ks t tk := by
  refine ⟨fun pos pins s σ H f first Q hk I h => ?_⟩
  refine PySem.W.callWith_KW (h₀ := X.base) I.ok.mod.kin hk (hall pos) (thn (ha.run pos pins s σ H _ I h) fun us s1 hh => ?_) (hpl pos) he
  obtain ⟨vs, H1, I1, r, q⟩ := hh
  refine thn (hkw.run pos pins s1 σ H1 _ I1 q) fun ws s2 hh2 => ?_
  obtain ⟨zs, H2, I2, rz, q2⟩ := hh2
  refine ⟨I2.kIn, ?_⟩
  rw [hks pos]
  exact q2 us ws s2 I2 r rz
theorem pc_none (hkw : PK X kws tk) (hall : ∀ pos, (backToKw pos (keywordEach kws X.env)).all (·.1.isSome) = true := by intro _; rfl) (hks : ∀ pos, (backToKw pos (keywordEach kws X.env)).filterMap (·.1) = ks := by intro _; rfl)
    (hpl : ∀ pos, ((backTo pos (starEach [] X.env)).any (·.1) || (backToKw pos (keywordEach kws X.env)).any (·.1.isNone)) = false := by intro _; rfl) : PC X [] kws ks tNil tk := by
  refine ⟨fun pos pins s σ H f first Q hk I h => ?_⟩
  refine PySem.W.callWith_KW0 (h₀ := X.base) I.ok.mod.kin hk (hall pos) (thn (hkw.run pos pins s σ H _ I h) fun ws s2 hh2 => ?_) (hpl pos)
  obtain ⟨zs, H2, I2, rz, q2⟩ := hh2
  refine ⟨I2.kIn, ?_⟩
  rw [hks pos]
  exact q2 [] ws s2 I2 .nil rz
variable {CX : CXT} {f C : Addr} {fd : FuncData} {sp : Sp} {E : XK} {pins : List (Addr × Obj)} {σ : L2.St} {H : Hp} {s : Shared} {Q : VK} {us full : List Value} {kw : List (Str × Value)} {vs : List V}
theorem run_go (F : FnG X.prog X.w X.K X.mg X.base CX k f fd ps sp) (hr : RmG k X.A) (bt : BindsTo s fd ⟨us, kw⟩ (ps.zip full)) (hx : PassesAt CX X σ E) (I : Inv X pins σ H s) (r : Vals vs full) (h : sp vs H Q E) :
    wpAny (model X.prog X.w) X.A (call (.ref f) us kw) (EP X pins σ Q) X.xe s := by
  refine wpAny_call (codeAny_mono (F.run X.A X.stack s H ⟨us, kw⟩ full vs Q E hr I.env0 bt r h) fun out s1 z => ?_)
  cases out with
  | ok fl =>
    cases fl with
    | ret u => exact I.after z
    | next => exact False.elim z
    | brk => exact False.elim z
    | cont => exact False.elim z
  | error x => exact hx pins H s x s1 I z
theorem make_go (Mc : Mk X.K C f) (F : FnG X.prog X.w X.K X.mg X.base CX k f fd ps sp) (hr : RmG (k + 1) X.A) {fullV : Value → List Value} {vsV : V → List V}
    (bt : ∀ (s1 : Shared) (a : Value), X.K.In s1.heap → BindsTo s1 fd ⟨a :: us, kw⟩ (ps.zip (fullV a))) (hx : PassesAt CX X σ E) (I : Inv X pins σ H s) (r : ∀ a, Vals (vsV (.ref a)) (fullV (.ref a)))
    (h : ∀ x dx, H x = none → H dx = none → dx ≠ x → sp (vsV (.ref x)) (upd (upd H dx (.own x)) x (.ins C dx [])) (fun v H2 => v = .non ∧ Q (.ref x) H2) E) :
    wpAny (model X.prog X.w) X.A (call (.ref C) us kw) (EP X pins σ Q) X.xe s := by
  have z0 := h (s.heap.objs.size + 1) s.heap.objs.size (I.hok.fresh (Nat.le_succ _)) (I.hok.fresh (Nat.le_refl _)) (Nat.ne_of_lt (Nat.lt_succ_self _))
  have Im := Inv.made (C := C) I
  have run := F.run _ X.stack _ _ ⟨Value.ref (s.heap.objs.size + 1) :: us, kw⟩ (fullV (.ref (s.heap.objs.size + 1))) _ _ E (hr.mk2 C us kw) (Im.env0.make C us kw) (bt _ _ Im.kIn) (r _) z0
  refine wpAny_call (make_map (f := f) I.kIn Mc.makes Mc.init (beq_iff_eq.mp Mc.fn) (codeAny_mono run fun out s1 z => ?_))
  cases out with
  | ok fl =>
    cases fl with
    | ret u =>
      obtain ⟨v, H3, I3, rv, ev, q⟩ := Im.after z
      subst ev
      exact ⟨rv, ⟨V.ref (s.heap.objs.size + 1), H3, I3, rfl, q⟩⟩
    | next => exact False.elim z
    | brk => exact False.elim z
    | cont => exact False.elim z
  | error x => exact hx pins _ _ x s1 Im z
end
/-- n positional arguments, keywords named ks: gD puts them in the parameters' order, defaults among them -/
structure BnM (K : PySem.W.Frag) (mg : Str → Option Value) (fd : FuncData) (ps : List Str) (n : Nat) (ks : List Str) (gD : List D → List D → List D) : Prop where
  ex : ∃ g gV, KBn K fd ps n ks g gV ∧ ∀ (H : Hp) (ρ : Lc) (μ : Mem) (vs zs : List V) (ds es : List D), RLm K mg H ρ μ vs ds → RLm K mg H ρ μ zs es → vs.length = n → zs.length = ks.length → RLm K mg H ρ μ (gV vs zs) (gD ds es)
section
variable {K : PySem.W.Frag} {mg : Str → Option Value} {x qual : Str} {params : Arguments} {body : List Stmt} {scope : Scope} {dvs : List V} {kws : List (Str × V)} {f : Addr} {fd : FuncData} {ps : List Str}
abbrev gPos : List D → List D → List D := fun ds _ => ds
theorem BnM.pos (b : Binds K fd ps []) (n : Nat) (hn : n = ps.length) : BnM K mg fd ps n [] gPos :=
  ⟨fun us _ => us, fun vs _ => vs, ⟨fun s us ws X h1 h2 => by
    cases ws with
    | nil =>
      have z := b s us X (by rw [List.append_nil, h1, hn])
      rw [List.append_nil] at z
      exact z
    | cons a r => exact (nomatch h2), fun r _ => r⟩, fun _ _ _ _ _ _ _ r _ _ _ => r⟩
/-- without defaults: keywords for the rest -/
theorem BnM.kw (F : FunD K x qual params body scope [] kws f fd) (n : Nat) (ks : List Str) (g : {α : Type} → List α → List α → List α)
    (hrel : ∀ {vs zs : List V} {us ws : List Value}, Vals vs us → Vals zs ws → Vals (g vs zs) (g us ws)) (hD : ∀ (H : Hp) (ρ : Lc) (μ : Mem) (vs zs : List V) (ds es : List D), RLm K mg H ρ μ vs ds → RLm K mg H ρ μ zs es → vs.length = n → zs.length = ks.length → RLm K mg H ρ μ (g vs zs) (g ds es))
    (h : ∀ (kV doc pm : Value) (an : Option Addr) (cdv ct : Value) (us ws : List Value), us.length = n → ws.length = ks.length → bindArgs (PySem.W.fnOf x qual params body scope .none kV doc pm an cdv ct) ⟨us, ks.zip ws⟩ = pure (ps.zip (g us ws))) : BnM K mg fd ps n ks g := by
  obtain ⟨oc, od, dV, kV, doc, pm, an, cdv, ct, osl, rfl, lk, hcd, hD1, hK⟩ := F.ex
  rcases hD1 with ⟨_, rfl⟩ | ⟨e, _⟩
  · exact ⟨g, g, ⟨fun s us ws X l1 l2 => BindsTo.of_eq (h kV doc pm an cdv ct us ws l1 l2), hrel⟩, hD⟩
  · exact absurd rfl e
end
def withLen (n m : Nat) (gD : List D → List D → List D) (f : List D → M D) (ds es : List D) : M D := fun μ => if ds.length = n ∧ es.length = m then f (gD ds es) μ else .no
def mArgs (a kw : ML) (F : List D → List D → M D) : ME := fun env μ => (a env μ).bind fun ds m1 => (kw env m1).bind fun es => F ds es
def mCallG (n m : Nat) (gD : List D → List D → List D) (f : List D → M D) (a kw : ML) : ME := mArgs a kw (withLen n m gD f)
/-- keywords -/
abbrev SK (X : Cx) (W : WX) (kws : List Keyword) (m : ML) : Prop := PK X kws (tML X.K X.mg W m)
theorem PK.imp {X : Cx} {e : List Keyword} {t t' : TA} (h : PK X e t) (i : ∀ σ H Q, t' σ H Q → t σ H Q) : PK X e t' := ⟨fun pos pins s σ H Q I q => h.run pos pins s σ H Q I (i σ H Q q)⟩
section
variable {X : Cx} {W : WX} {o e : Expr} {es : List Expr} {kws : List Keyword} {ks ps : List Str} {p pos apos kpos : Pos} {k n j : Nat} {ml mk : ML} {me : ME} {nm : Option Str} {g : List D → M D} {gD : List D → List D → List D} {c m x : Str}
theorem sk_nil : SK X W [] mNil := PK.imp pk_nil fun σ H Q ⟨ρ, μ, env, w, re, p⟩ => p [] H ρ Exm.refl w .nil
theorem sk_cons (ha : SE X W e me) (hr : SK X W kws mk) : SK X W (⟨nm, e, kpos⟩ :: kws) (mCons me mk) := by
  refine PK.imp (pk_cons ha hr) fun σ H Q ⟨ρ, μ, env, w, re, p⟩ => ?_
  refine ⟨ρ, μ, env, w, re, Post.imp (post_bindL p) (fun v H1 ⟨d, ρ1, μ1, e1, w1, r1, p1⟩ => ?_) fun _ _ _ z => z⟩
  refine ⟨ρ1, μ1, env, w1, re.mono e1, PostL.imp (postL_bindL p1) (fun vs H2 ⟨ds, ρ2, μ2, e2, w2, r2, p2⟩ => ?_) fun _ _ _ z => z⟩
  exact p2 (v :: vs) H2 ρ2 Exm.refl w2 (.cons (r1.mono e2.x) r2)
/-- the arguments by their mirrors -/
abbrev SC (X : Cx) (W : WX) (es : List Expr) (kws : List Keyword) (ks : List Str) (ml mk : ML) : Prop := PC X es kws ks (tML X.K X.mg W ml) (tML X.K X.mg W mk)
theorem sc_some (ha : SA X W (e :: es) ml) (hkw : SK X W kws mk) (hall : ∀ pos, (backToKw pos (keywordEach kws X.env)).all (·.1.isSome) = true := by intro _; rfl) (hks : ∀ pos, (backToKw pos (keywordEach kws X.env)).filterMap (·.1) = ks := by intro _; rfl)
    (he : starEach (e :: es) X.env = (false, eval e X.env) :: starEach es X.env := by rfl)
    (hpl : ∀ pos, ((backTo pos (starEach (e :: es) X.env)).any (·.1) || (backToKw pos (keywordEach kws X.env)).any (·.1.isNone)) = false := by intro _; rfl) : SC X W (e :: es) kws ks ml mk := pc_some ha hkw hall hks he hpl
theorem sc_none (hkw : SK X W kws mk) (hall : ∀ pos, (backToKw pos (keywordEach kws X.env)).all (·.1.isSome) = true := by intro _; rfl) (hks : ∀ pos, (backToKw pos (keywordEach kws X.env)).filterMap (·.1) = ks := by intro _; rfl)
    (hpl : ∀ pos, ((backTo pos (starEach [] X.env)).any (·.1) || (backToKw pos (keywordEach kws X.env)).any (·.1.isNone)) = false := by intro _; rfl) : SC X W [] kws ks mNil mk :=
  ⟨fun pos pins s σ H f first Q hk I h => (pc_none hkw hall hks hpl).run pos pins s σ H f first Q hk I (by
    obtain ⟨ρ, μ, env, w, re, p⟩ := h
    exact p [] H ρ Exm.refl w .nil)⟩
/-- own defs, own methods, own classes by their names: level k, n parameters in all -/
structure Fn (P : Program) (w : World) (K : PySem.W.Frag) (mg : Str → Option Value) (base : Heap) (f : Addr) (fd : FuncData) (ps : List Str) (k : Nat) (g : List D → M D) : Prop where
  ok : FnG P w K mg base (CXn P w) k f fd ps (spM K mg ps.length g)
  ar : Ar ps.length g
structure ClG (P : Program) (w : World) (K : PySem.W.Frag) (mg : Str → Option Value) (base : Heap) (x : Str) (k : Nat) (g : List D → M D) (n : Nat) (ks : List Str) (gD : List D → List D → List D) : Prop where
  ex : ∃ f fd ps, Fn P w K mg base f fd ps k g ∧ mg x = some (.ref f) ∧ PySem.W.keepIn K (.ref f) = true ∧ BnM K mg fd ps n ks gD
structure ClM (P : Program) (w : World) (K : PySem.W.Frag) (mg : Str → Option Value) (base : Heap) (c m : Str) (k : Nat) (g : List D → M D) (n : Nat) (ks : List Str) (gD : List D → List D → List D) : Prop where
  ex : ∃ C f fd ps, Fn P w K mg base f fd ps k g ∧ mg c = some (.ref C) ∧ Cls K C ∧ Meth K C m f ∧ BnM K mg fd ps (n + 1) ks gD
structure ClI (P : Program) (w : World) (K : PySem.W.Frag) (mg : Str → Option Value) (base : Heap) (c : Str) (k : Nat) (g : List D → M D) (n : Nat) (ks : List Str) (gD : List D → List D → List D) : Prop where
  ex : ∃ C f fd ps, Fn P w K mg base f fd ps k g ∧ mg c = some (.ref C) ∧ Mk K C f ∧ BnM K mg fd ps (n + 1) ks gD
theorem args_in {K : PySem.W.Frag} {mg : Str → Option Value} {H : Hp} {ρ : Lc} {μ : Mem} {σ : L2.St} {env : CL.Env} {F : List D → List D → M D} {T : List V → List V → Hp → Prop} {Q : VK} (w : Wd K mg H ρ μ) (re : REnv K mg H ρ μ σ env)
    (p : Post K mg (mArgs ml mk F env μ) H ρ μ Q (fun c od H' => W c od σ H'))
    (h : ∀ (vs zs : List V) (H2 : Hp) (ds es : List D) (ρ2 : Lc) (μ2 : Mem), Exm H ρ μ H2 ρ2 μ2 → Wd K mg H2 ρ2 μ2 → RLm K mg H2 ρ2 μ2 vs ds → RLm K mg H2 ρ2 μ2 zs es → Post K mg (F ds es μ2) H2 ρ2 μ2 Q (fun c od H' => W c od σ H') → T vs zs H2) :
    tML K mg W ml σ H (fun vs H1 => tML K mg W mk σ H1 fun zs H2 => T vs zs H2) := by
  refine ⟨ρ, μ, env, w, re, ?_⟩
  cases h1 : ml env μ with
  | no => unfold mArgs at p; rw [h1] at p; exact False.elim p
  | ex a b m0 => unfold mArgs at p; rw [h1] at p; exact p
  | ok ds m1 =>
    unfold mArgs at p
    rw [h1] at p
    intro vs H1 ρ1 e1 w1 r1
    refine ⟨ρ1, m1, env, w1, re.mono e1, ?_⟩
    have p1 : Post K mg ((mk env m1).bind fun es => F ds es) H1 ρ1 m1 Q (fun c od H' => W c od σ H') := Post.base e1 p
    cases h2 : mk env m1 with
    | no => rw [h2] at p1; exact False.elim p1
    | ex a b m0 => rw [h2] at p1; exact p1
    | ok es m2 =>
      rw [h2] at p1
      intro zs H2 ρ2 e2 w2 r2
      exact h vs zs H2 ds es ρ2 m2 (e1.trans e2) w2 (r1.mono e2.x) r2 (Post.base e2 p1)
theorem withLen_ok {K : PySem.W.Frag} {mg : Str → Option Value} {H : Hp} {ρ : Lc} {μ : Mem} {n m : Nat} {f : List D → M D} {ds es : List D} {Q : VK} {E : XK} (p : Post K mg (withLen n m gD f ds es μ) H ρ μ Q E) : (ds.length = n ∧ es.length = m) ∧ Post K mg (f (gD ds es) μ) H ρ μ Q E := by
  unfold withLen at p
  by_cases hc : ds.length = n ∧ es.length = m
  · rw [if_pos hc] at p
    exact ⟨hc, p⟩
  · rw [if_neg hc] at p
    exact False.elim p
/-- f(..) -/
theorem se_fnG (cl : ClG X.prog X.w X.K X.mg X.base x j g n ks gD) (hr : RmG k X.A) (hj : j ≤ k) (tk : Takes X W) (hc : SC X W es kws ks ml mk)
    (hg : Gl X x := by rfl) (hdb : (x == ("__debug__" : Str)) = false := by decide) : SE X W (.Call (.Name x p) es kws pos) (mCallG n ks.length gD g ml mk) := by
  refine ⟨fun pins s σ H Q I h => ?_⟩
  obtain ⟨f, fd, ps, Fk, hm, hk, hb⟩ := cl.ex
  obtain ⟨gv, gV, kb, hrel⟩ := hb.ex
  refine wpAny_Call_Name_kw (ld_glob I hg hm ?_ hdb)
  obtain ⟨ρ, μ, env, w, re, pp⟩ := h
  refine hc.run pos pins s σ H (.ref f) [] _ hk I (args_in w re pp fun vs zs H2 ds es ρ2 μ2 e2 w2 r2 z2 p2 => ?_)
  obtain ⟨⟨l1, l2⟩, p3⟩ := withLen_ok p2
  intro us ws s2 I2 ru rz
  have v1 : vs.length = n := r2.length.trans l1
  have v2 : zs.length = ks.length := z2.length.trans l2
  exact run_go Fk.ok (hr.mono hj) (kb.to s2 us ws I2.kIn (ru.length.symm.trans v1) (rz.length.symm.trans v2)) (passAt tk σ) I2 (kb.rel ru rz) (spM_of Fk.ar w2 (hrel _ _ _ _ _ _ _ r2 z2 v1 v2) p3)
/-- o.m(..), o an instance of the class c -/
def mMthG (c m : Str) (n l : Nat) (gD : List D → List D → List D) (f : List D → M D) (o : ME) (a kw : ML) : ME := fun env μ => (o env μ).bind fun x μ1 => match insOf μ1 x with
  | some (c', fds) => if c' = c ∧ fds.lookup m = none then mArgs a kw (fun ds es => withLen (n + 1) l gD f (x :: ds) es) env μ1 else .no
  | none => .no
theorem se_mthG {mo : ME} {pl : Sem Bool} (cl : ClM X.prog X.w X.K X.mg X.base c m j g n ks gD) (hr : RmG k X.A) (hj : j ≤ k) (tk : Takes X W) (ho : SE X W o mo) (hc : SC X W es kws ks ml mk)
    (ht : eval (.Call (.Attribute o m apos) es kws pos) X.env = (do
        let ov ← eval o X.env
        standAt apos.atName
        let (f, first) ← holding [ov] (getMethod ov m pl)
        callWith pos f first (backTo pos (starEach es X.env)) (backToKw pos (keywordEach kws X.env))) := by rfl) : SE X W (.Call (.Attribute o m apos) es kws pos) (mMthG c m n ks.length gD g mo ml mk) := by
  refine ⟨fun pins s σ H Q I h => ?_⟩
  obtain ⟨C, f, fd, ps, Fk, hm, hC, hM, hb⟩ := cl.ex
  obtain ⟨gv, gV, kb, hrel⟩ := hb.ex
  obtain ⟨ρ, μ, env, w, re, pp⟩ := h
  refine PySem.W.methodCall_KW (pl := pl) (thn (ho.run pins s σ H _ I ⟨ρ, μ, env, w, re, Post.imp (post_bind pp) (fun v H1 hh => hh) fun _ _ _ z => z⟩) fun u s1 hh => ?_) ht
  obtain ⟨v, H1, I1, rv, d, ρ1, μ1, e1, w1, r1, p1⟩ := hh
  cases hi : insOf μ1 d with
  | none => rw [hi] at p1; exact False.elim p1
  | some z =>
    obtain ⟨c', fds⟩ := z
    rw [hi] at p1
    dsimp only at p1
    by_cases hcc : c' = c ∧ fds.lookup m = none
    · rw [if_pos hcc] at p1
      obtain ⟨rfl, hl⟩ := hcc
      obtain ⟨a, C', dx, fs, ds0, rfl, ha, hm', rl, ez⟩ := insOf_ok w1 r1 hi
      have ec : C' = C := by
        have := hm'.symm.trans hm
        injection this with this
        injection this
      subst ec
      obtain rfl : u = Value.ref a := rv
      rw [ez] at hl
      refine getmeth_ok I1 ha hC hM ((fld_rel rl).2 hl) ?_
      refine hc.run pos pins s1 σ H1 (.ref f) [.ref a] _ hM.kp I1 (args_in w1 (re.mono e1) p1 fun vs zs H2 ds es ρ2 μ2 e2 w2 r2 z2 p2 => ?_)
      obtain ⟨⟨l1, l2⟩, p3⟩ := withLen_ok p2
      intro us ws s2 I2 ru rz
      have ra : RLm X.K X.mg H2 ρ2 μ2 (V.ref a :: vs) (d :: ds) := .cons (r1.mono e2.x) r2
      have v1 : (V.ref a :: vs).length = n + 1 := ra.length.trans l1
      have v2 : zs.length = ks.length := z2.length.trans l2
      have rua : Vals (V.ref a :: vs) (Value.ref a :: us) := .cons rfl ru
      exact run_go Fk.ok (hr.mono hj) (kb.to s2 (Value.ref a :: us) ws I2.kIn (rua.length.symm.trans v1) (rz.length.symm.trans v2)) (passAt tk σ) I2 (kb.rel rua rz) (spM_of Fk.ar w2 (hrel _ _ _ _ _ _ _ ra z2 v1 v2) p3)
    · rw [if_neg hcc] at p1
      exact False.elim p1
/-- c(..): a new instance, then __init__ -/
def gNew (c : Str) (f : D → M D) : M D := fun μ => match f (.cel μ.length) (μ ++ [some (.ins c [])]) with
  | .ok .non m => .ok (.cel μ.length) m
  | .ok _ _ => .no
  | .ex a b m => .ex a b m
  | .no => .no
def mNewG (c : Str) (n l : Nat) (gD : List D → List D → List D) (f : List D → M D) (a kw : ML) : ME := mArgs a kw (fun ds es => gNew c (fun x => withLen (n + 1) l gD f (x :: ds) es))
theorem se_newG (cl : ClI X.prog X.w X.K X.mg X.base c j g n ks gD) (hr : RmG k X.A) (hj : j + 1 ≤ k) (tk : Takes X W) (hc : SC X W es kws ks ml mk)
    (hg : Gl X c := by rfl) (hdb : (c == ("__debug__" : Str)) = false := by decide) : SE X W (.Call (.Name c p) es kws pos) (mNewG c n ks.length gD g ml mk) := by
  refine ⟨fun pins s σ H Q I h => ?_⟩
  obtain ⟨C, f, fd, ps, Fk, hm, hM, hb⟩ := cl.ex
  obtain ⟨gv, gV, kb, hrel⟩ := hb.ex
  refine wpAny_Call_Name_kw (ld_glob I hg hm ?_ hdb)
  obtain ⟨ρ, μ, env, w, re, pp⟩ := h
  refine hc.run pos pins s σ H (.ref C) [] _ hM.kp I (args_in w re pp fun vs zs H2 ds es ρ2 μ2 e2 w2 r2 z2 p2 => ?_)
  intro us ws s2 I2 ru rz
  have l12 : (ds.length = n) ∧ es.length = ks.length := by
    apply Classical.byContradiction
    intro hn
    unfold gNew at p2
    have e0 : withLen (n + 1) ks.length gD g (.cel μ2.length :: ds) es (μ2 ++ [some (.ins c [])]) = .no := by
      unfold withLen
      rw [if_neg (fun z => hn ⟨by simpa using z.1, z.2⟩)]
    dsimp only at p2
    rw [e0] at p2
    exact p2
  have v1 : vs.length = n := r2.length.trans l12.1
  have v2 : zs.length = ks.length := z2.length.trans l12.2
  refine make_go (vsV := fun x => gV (x :: vs) zs) (fullV := fun a => gv (a :: us) ws) hM Fk.ok (hr.mono hj) (fun s3 a k3 => kb.to s3 (a :: us) ws k3 (by rw [List.length_cons, ← ru.length, v1]) (rz.length.symm.trans v2)) (passAt tk σ) I2 (fun a => kb.rel (.cons rfl ru) rz) fun x dx hx hdx hne => ?_
  have hx2 : (upd H2 dx (.own x)) x = none := (upd_ne (fun z => hne z.symm)).trans hx
  have wA : Wd X.K X.mg (upd H2 dx (.own x)) ρ2 μ2 := w2.new hdx
  have eA : Exm H2 ρ2 μ2 (upd H2 dx (.own x)) ρ2 μ2 := Exm.new w2 hdx
  have eB : Exm (upd H2 dx (.own x)) ρ2 μ2 (upd (upd H2 dx (.own x)) x (.ins C dx [])) (ρ2.push x) (μ2 ++ [some (.ins c [])]) := Exm.newC wA hx2
  have wB : Wd X.K X.mg (upd (upd H2 dx (.own x)) x (.ins C dx [])) (ρ2.push x) (μ2 ++ [some (.ins c [])]) := wA.newC hx2 ⟨C, dx, [], [], upd_same, (upd_ne hne).trans upd_same, fun l => by
    rcases Live.push wA l with e | l
    · exact hne e
    · exact w2.fresh hdx ((by exact l)), hm, .nil, rfl⟩
  have ra : RLm X.K X.mg (upd (upd H2 dx (.own x)) x (.ins C dx [])) (ρ2.push x) (μ2 ++ [some (.ins c [])]) (V.ref x :: vs) (.cel μ2.length :: ds) := .cons (Rm.newC wA) ((r2.mono eA.x).mono eB.x)
  unfold gNew at p2
  refine spM_of Fk.ar wB (hrel _ _ _ _ _ _ _ ra ((z2.mono eA.x).mono eB.x) (by rw [List.length_cons, v1]) v2) ?_
  have e0 : withLen (n + 1) ks.length gD g (.cel μ2.length :: ds) es (μ2 ++ [some (.ins c [])]) = g (gD (.cel μ2.length :: ds) es) (μ2 ++ [some (.ins c [])]) := by
    unfold withLen
    rw [if_pos ⟨by rw [List.length_cons, l12.1], l12.2⟩]
  dsimp only at p2
  rw [e0] at p2
  cases hg2 : g (gD (.cel μ2.length :: ds) es) (μ2 ++ [some (.ins c [])]) with
  | no => rw [hg2] at p2; exact p2
  | ex a b m0 =>
    rw [hg2] at p2
    intro cls od H3 ρ3 e3 w3 x3
    exact p2 cls od H3 ρ3 (eA.trans (eB.trans e3)) w3 x3
  | ok d m0 =>
    rw [hg2] at p2
    intro v H3 ρ3 e3 w3 r3
    cases d with
    | non =>
      cases r3
      exact ⟨rfl, p2 (.ref x) H3 ρ3 (eA.trans (eB.trans e3)) w3 ((Rm.newC (d := .ins c []) (H' := upd (upd H2 dx (.own x)) x (.ins C dx [])) wA).mono e3.x)⟩
    | _ => exact False.elim p2
end
end CL

namespace CL
open PySem L2 PySem.Spec PyProof.Rows
section
variable {K : PySem.W.Frag} {mg : Str → Option Value} {H H1 : Hp} {ρ ρ1 : Lc} {μ μ1 : Mem} {E : XK}
def setD (x k y : D) (μ : Mem) : Option Mem := match x with
  | .cel i => (match μ[i]? with
    | some (some (.lst ds)) => (match k with
      | .int j => (match ixN ds.length j with
        | some p => some (μ.set i (some (.lst (ds.set p y))))
        | none => none)
      | _ => none)
    | some (some (.dct t kds)) => if keyOk t k = true ∧ kds.length < lim then some (μ.set i (some (.dct t (dput kds k y)))) else none
    | _ => none)
  | _ => none
/-- the mutable dict at a changes -/
theorem set_dK {i : Nat} {a : Addr} {kds : List (D × D)} {kvs' : List (Key × V)} {ds' : List D} (w : Wd K mg H ρ μ) (hc : ρ.cs[i]? = some a) (hm : μ[i]? = some (some (.dct false kds))) (r : RLm K mg H ρ μ (kvs'.map (·.2)) ds') :
    Exm H ρ μ (upd H a (.dK kvs')) ρ (μ.set i (some (.dct false ((kvs'.map fun p => kD p.1).zip ds')))) ∧ Wd K mg (upd H a (.dK kvs')) ρ (μ.set i (some (.dct false ((kvs'.map fun p => kD p.1).zip ds')))) := by
  have ex := exm_set (d' := .dct false ((kvs'.map fun p => kD p.1).zip ds')) (o := .dK kvs') w hc hm
  exact ⟨ex, wd_set w hc hm ⟨kvs', ds', upd_same, r.mono ex.x, rfl⟩⟩
theorem set_dT {i : Nat} {a : Addr} {kds : List (D × D)} {kvs' : List (List Key × V)} {ds' : List D} (w : Wd K mg H ρ μ) (hc : ρ.cs[i]? = some a) (hm : μ[i]? = some (some (.dct true kds))) (r : RLm K mg H ρ μ (kvs'.map (·.2)) ds') :
    Exm H ρ μ (upd H a (.dT kvs')) ρ (μ.set i (some (.dct true ((kvs'.map fun p => D.tup (p.1.map kD)).zip ds')))) ∧ Wd K mg (upd H a (.dT kvs')) ρ (μ.set i (some (.dct true ((kvs'.map fun p => D.tup (p.1.map kD)).zip ds')))) := by
  have ex := exm_set (d' := .dct true ((kvs'.map fun p => D.tup (p.1.map kD)).zip ds')) (o := .dT kvs') w hc hm
  exact ⟨ex, wd_set w hc hm ⟨kvs', ds', upd_same, r.mono ex.x, rfl⟩⟩
def rSetA : TSet := fun o i v H Q => rSetL o i v H Q ∨ rSetD o i v H Q
theorem set_all {X : Cx} (hu : X.A.units + 1 < cLine) : PSet X rSetA := fun pins s σ H o i v ov iv u Q I ro ri rv h => by
  rcases h with h | h
  · exact set_list pins s σ H o i v ov iv u Q I ro ri rv h
  · exact set_dict hu pins s σ H o i v ov iv u Q I ro ri rv h
theorem setD_ok {o i v : V} {x k y : D} {μ' : Mem} {Q : Hp → Prop} (w : Wd K mg H ρ μ) (ro : Rm K mg H ρ μ o x) (ri : Rm K mg H ρ μ i k) (rv : Rm K mg H ρ μ v y) (h : setD x k y μ = some μ')
    (q : ∀ H', Exm H ρ μ H' ρ μ' → Wd K mg H' ρ μ' → Q H') : rSetA o i v H Q := by
  cases ro with
  | @cel a j hc =>
    unfold setD at h
    dsimp only at h
    cases hm : μ[j]? with
    | none => rw [hm] at h; exact nomatch h
    | some ob =>
      rw [hm] at h
      cases ob with
      | none => exact nomatch h
      | some d0 =>
        cases d0 with
        | lst ds =>
          cases ri with
          | int n =>
            dsimp only at h
            cases hx : ixN ds.length n with
            | none => rw [hx] at h; exact nomatch h
            | some p =>
              rw [hx] at h
              have e := Option.some.inj h
              subst e
              obtain ⟨vs, hH, rl⟩ := w.cell j _ a hm hc
              refine .inl ⟨a, vs, n, p, rfl, rfl, hH, by rw [rl.length]; exact hx, ?_⟩
              obtain ⟨x3, w3⟩ := set_lstU w hc hm (rl.set rv p)
              exact q _ x3 w3
          | _ => exact nomatch h
        | dct t kds =>
          dsimp only at h
          by_cases hk : keyOk t k = true ∧ kds.length < lim
          · rw [if_pos hk] at h
            have e := Option.some.inj h
            subst e
            cases t with
            | false =>
              obtain ⟨kvs, ds, hH, rl, ez⟩ := w.cell j _ a hm hc
              have hlen : kvs.length < sizeLine := by
                have h1 := rl.length
                rw [List.length_map] at h1
                have h2 := congrArg List.length ez
                rw [List.length_zip, List.length_map] at h2
                have h3 := hk.2
                exact lim_lt (by omega)
              obtain ⟨kk, ekk⟩ : ∃ kk : Key, k = kD kk := by
                have h1 := hk.1
                cases ri with
                | int n => exact ⟨.inl n, rfl⟩
                | str s => exact ⟨.inr s, rfl⟩
                | _ => exact nomatch h1
              subst ekk
              have ei := R.key ri
              subst ei
              obtain ⟨ds', r', e'⟩ := dput_rel (f := kD) (fun _ _ z => kD_inj z) rv rl kk
              obtain ⟨x3, w3⟩ := set_dK w hc hm r'
              refine .inr ⟨a, _, rfl, DPut.k hH hlen, ?_⟩
              rw [ez, e'] at q
              exact q _ x3 w3
            | true =>
              obtain ⟨kvs, ds, hH, rl, ez⟩ := w.cell j _ a hm hc
              have hlen : kvs.length < sizeLine := by
                have h1 := rl.length
                rw [List.length_map] at h1
                have h2 := congrArg List.length ez
                rw [List.length_zip, List.length_map] at h2
                have h3 := hk.2
                exact lim_lt (by omega)
              have hk1 := hk.1
              cases ri with
              | tup hT rT =>
                rename_i b vs ls
                obtain ⟨b', kk, eb, hb, el⟩ := key_tup (R.tup hT rT) hk1
                have eb' := V.ref.inj eb
                subst eb' el
                obtain ⟨ds', r', e'⟩ := dput_rel (f := fun kk : List Key => D.tup (kk.map kD)) (fun _ _ z => dT_inj z) rv rl kk
                obtain ⟨x3, w3⟩ := set_dT w hc hm r'
                refine .inr ⟨a, _, rfl, DPut.t hH hb hlen, ?_⟩
                rw [ez, e'] at q
                exact q _ x3 w3
              | _ => exact nomatch hk1
          · rw [if_neg hk] at h
            exact nomatch h
        | _ => exact nomatch h
  | _ => exact nomatch h
def sStore (mo mi mv : ME) : MS := fun env μ => (mv env μ).st env fun y m1 => (mo env m1).st env fun x m2 => (mi env m2).st env fun k m3 => match setD x k y m3 with
  | some m4 => .nx env m4
  | none => .no
section
variable {X : Cx} {W : WX} {a b c o e i value : Expr} {es : List Expr} {pos pos' p : Pos} {ma mb mc mo mi mv : ME} {ml : ML} {k n : Nat}
theorem s_store (hr : RmG k X.A) (ho : SE X W o mo) (hi : SE X W i mi) (hv : SE X W value mv) (hs : swapsWithSole [.Subscript o i pos'] value pos.line X.env = pure false := by rfl) (hw : swappedStores [.Subscript o i pos'] value X.env = pure none := by rfl)
    (h1 : (assignEach [.Subscript o i pos'] X.env).map (·.2) = [assign (.Subscript o i pos') X.env] := by rfl)
    (ha : ∀ v, assign (.Subscript o i pos') X.env v = (do
      let ov ← holding [v] (eval o X.env)
      let iv ← holding [v, ov] (eval i X.env)
      standAt pos'
      holding [v, ov, iv] (setItem ov iv v)
      release [v, ov, iv] []) := by intro _; rfl) : SS X W (.Assign [.Subscript o i pos'] value pos) (sStore mo mi mv) := by
  refine PS.imp (ps_asg hv (pg_sub ho hi (set_all (by have := hr.un; omega)) ha) hs hw h1) fun Dn σ H ⟨ρ, μ, env, w, re, p⟩ => ?_
  refine ⟨ρ, μ, env, w, re, Post.imp (post_st re p) (fun y H1 ⟨dy, ρ1, μ1, e1, w1, re1, r1, p1⟩ => ?_) fun _ _ _ z => z⟩
  refine ⟨ρ1, μ1, env, w1, re1, Post.imp (post_st re1 p1) (fun x H2 ⟨dx, ρ2, μ2, e2, w2, re2, r2, p2⟩ => ?_) fun _ _ _ z => z⟩
  refine ⟨ρ2, μ2, env, w2, re2, Post.imp (post_st re2 p2) (fun z H3 ⟨dz, ρ3, μ3, e3, w3, re3, r3, p3⟩ => ?_) fun _ _ _ z => z⟩
  cases hd : setD dx dz dy μ3 with
  | none => rw [hd] at p3; exact False.elim p3
  | some m4 =>
    rw [hd] at p3
    exact setD_ok w3 (r2.mono e3.x) r3 ((r1.mono e2.x).mono e3.x) hd fun H' x4 w4 => p3 σ H' ρ3 x4 w4 (re3.mono x4)
theorem se_gint {x : Str} {j : Int} (hm : ∃ t, X.mg x = some (.int j t)) (hg : Gl X x := by rfl) (hd : (x == ("__debug__" : Str)) = false := by decide) : SE X W (.Name x pos) (mC (.int j)) := by
  obtain ⟨t, hm⟩ := hm
  exact se_c (pe_glob (v := .int j) hg hm ⟨t, rfl⟩ hd) fun _ _ _ => .int j
theorem se_gstr {x z : Str} (hm : ∃ t, X.mg x = some (.str z t)) (hg : Gl X x := by rfl) (hd : (x == ("__debug__" : Str)) = false := by decide) : SE X W (.Name x pos) (mC (.str z)) := by
  obtain ⟨t, hm⟩ := hm
  exact se_c (pe_glob (v := .str z) hg hm ⟨t, rfl⟩ hd) fun _ _ _ => .str z
def dNeg : D → M D := fun d μ => match d with
  | .int i => .ok (.int (-i)) μ
  | _ => .no
theorem se_neg (ha : SE X W a ma) : SE X W (.UnaryOp .USub a pos) (mUn dNeg ma) := by
  refine PE.imp (pe_un un_neg ha) fun σ H Q ⟨ρ, μ, env, w, re, p⟩ => ?_
  refine ⟨ρ, μ, env, w, re, Post.imp (post_bind p) (fun v H1 ⟨d, ρ1, μ1, e1, w1, r1, p1⟩ => ?_) fun _ _ _ z => z⟩
  cases r1 with
  | int i => exact ⟨i, rfl, Post.ok w1 p1 (.int _)⟩
  | _ => exact False.elim p1
def mChain (g g' : D → D → M D) (a b c : ME) : ME := fun env μ => (a env μ).bind fun x m1 => (b env m1).bind fun y m2 => (g x y m2).bind fun z m3 => match z with
  | .bl true => (c env m3).bind fun u => g' y u
  | .bl false => .ok (.bl false) m3
  | _ => .no
theorem chain_in {r r' : R2} {g g' : D → D → M D} {σ : L2.St} {H : Hp} {Q : VK} (hg : OpM K mg r g) (hg' : OpM K mg r' g') (h : tM K mg W (mChain g g' ma mb mc) σ H Q) : tChain r r' (tM K mg W ma) (tM K mg W mb) (tM K mg W mc) σ H Q := by
  obtain ⟨ρ, μ, env, w, re, p⟩ := h
  refine ⟨ρ, μ, env, w, re, Post.imp (post_bind p) (fun v H1 ⟨d, ρ1, μ1, e1, w1, r1, p1⟩ => ?_) fun _ _ _ z => z⟩
  refine ⟨ρ1, μ1, env, w1, re.mono e1, Post.imp (post_bind p1) (fun v2 H2 ⟨d2, ρ2, μ2, e2, w2, r2, p2⟩ => ?_) fun _ _ _ z => z⟩
  refine hg H2 ρ2 μ2 v v2 d d2 _ _ w2 (r1.mono e2.x) r2 (Post.imp (post_bind p2) (fun v3 H3 ⟨d3, ρ3, μ3, e3, w3, r3, p3⟩ => ?_) fun _ _ _ z => z)
  cases r3 with
  | bl t =>
    refine ⟨t, rfl, ?_⟩
    cases t with
    | false => exact Post.ok w3 p3 (.bl false)
    | true =>
      rw [if_pos rfl]
      refine ⟨ρ3, μ3, env, w3, ((re.mono e1).mono e2).mono e3, Post.imp (post_bind p3) (fun v4 H4 ⟨d4, ρ4, μ4, e4, w4, r4, p4⟩ => ?_) fun _ _ _ z => z⟩
      exact hg' H4 ρ4 μ4 v2 v4 d2 d4 _ _ w4 ((r2.mono e3.x).mono e4.x) r4 p4
  | _ => exact False.elim p3
theorem se_chain {op op' : CmpOp} {r r' : R2} {g g' : D → D → M D} (ho : OpR X (compareOp op) r) (hg : OpM X.K X.mg r g) (ho' : OpR X (compareOp op') r') (hg' : OpM X.K X.mg r' g') (ha : SE X W a ma) (hb : SE X W b mb) (hc : SE X W c mc)
    (hm : lastMarks [op, op'] [b, c] = false := by with_unfolding_all rfl) : SE X W (.Compare a [op, op'] [b, c] pos) (mChain g g' ma mb mc) :=
  PE.imp (pe_chain ho ho' ha hb hc hm) fun σ H Q h => chain_in hg hg' h
theorem sb_chain {op op' : CmpOp} {r r' : R2} {g g' : D → D → M D} (ho : OpR X (compareOp op) r) (hg : OpM X.K X.mg r g) (ho' : OpR X (compareOp op') r') (hg' : OpM X.K X.mg r' g') (ha : SE X W a ma) (hb : SE X W b mb) (hc : SE X W c mc)
    (hm : lastMarks [op, op'] [b, c] = false := by with_unfolding_all rfl) : ST X W (.Compare a [op, op'] [b, c] pos) (bVal (mChain g g' ma mb mc)) := by
  refine PT.imp (pt_chain ho ho' ha hb hc hm) fun σ H Q ⟨ρ, μ, env, w, re, p⟩ => ?_
  refine chain_in hg hg' ⟨ρ, μ, env, w, re, Post.imp (post_bindB p) (fun v H1 ⟨d, ρ1, μ1, e1, w1, r1, p1⟩ => ?_) fun _ _ _ z => z⟩
  cases r1 with
  | bl t => exact ⟨t, rfl, p1 H1 ρ1 Exm.refl w1⟩
  | _ => exact False.elim p1
def asBls : List D → Option (List Bool)
  | [] => some []
  | .bl b :: ds => (asBls ds).map (b :: ·)
  | _ :: _ => none
theorem RL.bls {Lv : Addr → Prop} {cs : List Addr} : ∀ {vs : List V} {ds : List D} {bs : List Bool}, RL K mg H Lv cs vs ds → asBls ds = some bs → vs = bs.map V.bl
  | _, _, bs, .nil, h => by
    have e := Option.some.inj h
    subst e
    rfl
  | _, _, bs, .cons r t, h => by
    cases r with
    | bl b =>
      unfold asBls at h
      cases h1 : asBls (_ : List D) with
      | none => rw [h1] at h; exact nomatch h
      | some bs' =>
        rw [h1] at h
        have e := Option.some.inj h
        subst e
        rw [RL.bls t h1]
        rfl
    | _ => exact nomatch h
def dAll (f : List Bool → Bool) : List D → M D := fun ds μ => match ds with
  | [x] => (match lstOf μ x with
    | some xs => (match asBls xs with
      | some bs => .ok (.bl (f bs)) μ
      | none => .no)
    | none => .no)
  | _ => .no
theorem m_allOf {f : List Bool → Bool} : CallM K mg (fun vs H Q => ∃ (a : Addr) (bs : List Bool), vs = [V.ref a] ∧ SqL K H a (bs.map V.bl) ∧ Q (.bl (f bs)) H) (dAll f) := by
  intro H ρ μ vs ds Q E w rv p
  unfold dAll at p
  split at p
  · rename_i x
    cases rv with
    | cons r t =>
      cases t
      cases h1 : lstOf μ x with
      | none => rw [h1] at p; exact False.elim p
      | some xs =>
        rw [h1] at p
        dsimp only at p
        cases h2 : asBls xs with
        | none => rw [h2] at p; exact False.elim p
        | some bs =>
          rw [h2] at p
          obtain ⟨a, ws, rfl, hR, rl⟩ := lstOf_ok w r h1
          have e := RL.bls rl h2
          subst e
          exact ⟨a, bs, rfl, .inl hR, Post.ok w p (.bl _)⟩
  · exact False.elim p
theorem m_all : CallM K mg (rAll K) (dAll fun bs => bs.all id) := m_allOf
theorem m_any : CallM K mg (rAny K) (dAll fun bs => bs.any id) := m_allOf
end
end
end CL

namespace CL
open PySem L2 PySem.Spec PyProof.Rows
def kinds : List String := ["NoneType", "bool", "int", "str", "list", "tuple", "dict"]
def isiB (n T : String) : Bool := n == T || (n == "bool" && T == "int")
theorem isi_tab : ∀ n ∈ kinds, ∀ T ∈ kinds.drop 1, kitB n T = some (isiB n T) := by decide +kernel
def kindOf (μ : Mem) : D → Option String
  | .non => some "NoneType"
  | .bl _ => some "bool"
  | .int _ => some "int"
  | .str _ => some "str"
  | .lst _ => some "list"
  | .tup _ => some "tuple"
  | .dct _ _ => some "dict"
  | .cel i => (match μ[i]? with
    | some (some (.lst _)) => some "list"
    | some (some (.dct _ _)) => some "dict"
    | _ => none)
  | _ => none
theorem kindOf_in {μ : Mem} {d : D} {n : String} (h : kindOf μ d = some n) : n ∈ kinds := by
  have fin : ∀ {m : String}, m ∈ kinds → some m = some n → n ∈ kinds := fun hm e => Option.some.inj e ▸ hm
  cases d with
  | non => exact fin (by decide) h
  | bl _ => exact fin (by decide) h
  | int _ => exact fin (by decide) h
  | str _ => exact fin (by decide) h
  | lst _ => exact fin (by decide) h
  | tup _ => exact fin (by decide) h
  | dct _ _ => exact fin (by decide) h
  | ins _ _ => exact nomatch h
  | ty _ => exact nomatch h
  | exc _ _ => exact nomatch h
  | cel i =>
    unfold kindOf at h
    dsimp only at h
    cases hm : μ[i]? with
    | none => rw [hm] at h; exact nomatch h
    | some ob =>
      rw [hm] at h
      cases ob with
      | none => exact nomatch h
      | some d0 =>
        cases d0 with
        | lst _ => exact fin (by decide) h
        | dct _ _ => exact fin (by decide) h
        | _ => exact nomatch h
/-- what isinstance needs of a value -/
def TyY (K : PySem.W.Frag) (H : Hp) (v : V) (t : Value) : Prop := TyX K H v t ∨ ∃ a ob kvs, v = .ref a ∧ H a = some (.frz ob (.dT kvs)) ∧ t = .type "dict"
def rIsiY (K : PySem.W.Frag) : List V → Hp → VK → Prop := fun xs H Q => ∃ (x c : V) (t u : Value) (b : Bool), xs = [x, c] ∧ ClsV c u ∧ TyY K H x t ∧ PySem.W.kitOne K t u = some b ∧ Q (.bl b) H
theorem call_isiY {X : Cx} : CallR X (.builtin "isinstance") (rIsiY X.K) := by
  intro pins s σ H xs us Q I r h
  obtain ⟨x, c, t, u, b, rfl, k, ty, e, q⟩ := h
  rcases ty with ty | ⟨a, ob, kvs, rfl, ha, rfl⟩
  · exact call_isi pins s σ H _ us Q I r ⟨x, c, t, u, b, rfl, k, ty, e, q⟩
  · obtain ⟨u1, u2, rfl, r1, r2⟩ := vals2 r
    have e2 := k.eq r2
    subst e2
    cases (show u1 = Value.ref a from r1)
    obtain ⟨hs, hgd, hx, _⟩ := I.frzT ha
    exact PySem.W.kia_one PySem.W.kitx_dict I.kIn ⟨ob, hgd, hx.1⟩ e (fun z => nomatch z) fun tk => ⟨.bl b, H, I.tok tk, rfl, q⟩
section
variable {K : PySem.W.Frag} {mg : Str → Option Value} {H H1 : Hp} {ρ ρ1 : Lc} {μ μ1 : Mem} {E : XK}
theorem kindOf_ok {v : V} {d : D} {n : String} (w : Wd K mg H ρ μ) (r : Rm K mg H ρ μ v d) (h : kindOf μ d = some n) : TyY K H v (.type n) := by
  cases r with
  | non => have e := Option.some.inj h; subst e; exact .inl (.base .non)
  | bl b => have e := Option.some.inj h; subst e; exact .inl (.base (.bl b))
  | int i => have e := Option.some.inj h; subst e; exact .inl (.base (.int i))
  | str x => have e := Option.some.inj h; subst e; exact .inl (.base (.str x))
  | lst hL _ =>
    have e := Option.some.inj h
    subst e
    rcases hL.1 with h1 | ⟨o, h1⟩
    · exact .inl (.base (.lst h1))
    · exact .inl (.base (.frz h1))
  | tup hT _ =>
    have e := Option.some.inj h
    subst e
    rcases hT with ⟨h1, _⟩ | ⟨_, o, its, m, h1, h2, _⟩
    · exact .inl (.base (.tup h1))
    · exact .inl (.kTuple h1 h2)
  | dK h1 _ _ _ _ =>
    have e := Option.some.inj h
    subst e
    rcases h1 with h1 | ⟨o, h1⟩
    · exact .inl (.base (.dK h1))
    · exact .inl (.fDict h1)
  | dT h1 _ _ _ _ =>
    have e := Option.some.inj h
    subst e
    rcases h1 with h1 | ⟨o, h1⟩
    · exact .inl (.base (.dT h1))
    · exact .inr ⟨_, _, _, rfl, h1, rfl⟩
  | @cel a i hc =>
    unfold kindOf at h
    dsimp only at h
    cases hm : μ[i]? with
    | none => rw [hm] at h; exact nomatch h
    | some ob =>
      rw [hm] at h
      cases ob with
      | none => exact nomatch h
      | some d0 =>
        cases d0 with
        | lst ds =>
          have e := Option.some.inj h
          subst e
          obtain ⟨vs, hH, _⟩ := w.cell i _ a hm hc
          exact .inl (.base (.lst hH))
        | dct t kds =>
          have e := Option.some.inj h
          subst e
          cases t with
          | false =>
            obtain ⟨kvs, ds, hH, _⟩ := w.cell i _ a hm hc
            exact .inl (.base (.dK hH))
          | true =>
            obtain ⟨kvs, ds, hH, _⟩ := w.cell i _ a hm hc
            exact .inl (.base (.dT hH))
        | _ => exact nomatch h
  | _ => exact nomatch h
def dIsi (T : String) : D → M D := fun d μ => match kindOf μ d with
  | some n => .ok (.bl (isiB n T)) μ
  | none => .no
section
variable {X : Cx} {W : WX} {a b c o e i value : Expr} {es : List Expr} {pos pos' p p2 : Pos} {ma mb mc mo mi mv : ME} {ml : ML} {k n : Nat}
/-- isinstance(e, T) -/
theorem se_isi {T : Str} {t : String} (hT : t ∈ kinds.drop 1) (he : SE X W e ma) (hm : X.mg "isinstance" = none) (hm2 : X.mg T = none) (hv2 : bootBuiltins T = some (.type t)) (hg : Gl X "isinstance" := by rfl) (hg2 : Gl X T := by rfl) (hn : T ≠ "__name__" := by decide) (hd : (T == ("__debug__" : Str)) = false := by decide)
    (hs : starEach [e, .Name T p2] X.env = (false, eval e X.env) :: starEach [.Name T p2] X.env := by rfl) (hpl : (backTo pos (starEach [.Name T p2] X.env)).any (·.1) = false := by rfl) :
    SE X W (.Call (.Name "isinstance" p) [e, .Name T p2] [] pos) (mUn (dIsi t) ma) := by
  have hb : PE X (.Name T p2) (tC (.ty t)) := pe_bltn (v := .ty t) hg2 hm2 hv2 rfl hn hd
  refine PE.imp (pe_callB call_isiY hg hm boot_isinstance (pa_cons he (pa_cons hb pa_nil) hs) (by decide) (by decide) hs hpl) fun σ H Q ⟨ρ, μ, env, w, re, p⟩ => ?_
  refine ⟨ρ, μ, env, w, re, Post.imp (post_bind p) (fun v H1 ⟨d, ρ1, μ1, e1, w1, r1, p1⟩ => ?_) fun _ _ _ z => z⟩
  unfold dIsi at p1
  cases hk : kindOf μ1 d with
  | none => rw [hk] at p1; exact False.elim p1
  | some n =>
    rw [hk] at p1
    exact ⟨v, .ty t, .type n, .type t, isiB n t, rfl, .ty t, kindOf_ok w1 r1 hk, kit_ty (isi_tab n (kindOf_in hk) t hT), Post.ok w1 p1 (.bl _)⟩
def mDFz (t : Bool) : ME := fun _ μ => .ok (.dct t []) μ
def mDCe (t : Bool) : ME := fun _ μ => .ok (.cel μ.length) (μ ++ [some (.dct t [])])
theorem se_dfz {t : Bool} : SE X W (.Dict [] [] pos) (mDFz t) := by
  cases t with
  | false => exact PE.imp pe_dnewK fun σ H Q ⟨ρ, μ, env, w, re, p⟩ q hq => p (.ref q) _ ρ (Exm.new w hq) (w.new hq) (.dK (kvs := []) (vs := []) (ds := []) (.inl upd_same) (w.fresh hq) rfl .nil rfl)
  | true => exact PE.imp pe_dnewT fun σ H Q ⟨ρ, μ, env, w, re, p⟩ q hq => p (.ref q) _ ρ (Exm.new w hq) (w.new hq) (.dT (kvs := []) (vs := []) (ds := []) (.inl upd_same) (w.fresh hq) rfl .nil rfl)
theorem se_dce {t : Bool} : SE X W (.Dict [] [] pos) (mDCe t) := by
  cases t with
  | false => exact PE.imp pe_dnewK fun σ H Q ⟨ρ, μ, env, w, re, p⟩ q hq => p (.ref q) _ (ρ.push q) (Exm.newC w hq) (w.newC hq ⟨[], [], upd_same, .nil, rfl⟩) (Rm.newC (d := .dct false []) w)
  | true => exact PE.imp pe_dnewT fun σ H Q ⟨ρ, μ, env, w, re, p⟩ q hq => p (.ref q) _ (ρ.push q) (Exm.newC w hq) (w.newC hq ⟨[], [], upd_same, .nil, rfl⟩) (Rm.newC (d := .dct true []) w)
def dGet2 (x k z : D) : M D := fun μ => match dctOf μ x with
  | some (t, kds) => if keyOk t k = true then .ok ((dget kds k).getD z) μ else .no
  | none => .no
def mGet2 (mo mk mz : ME) : ME := fun env μ => (mo env μ).bind fun x m1 => match dctOf m1 x with
  | some _ => (mk env m1).bind fun k m2 => (mz env m2).bind fun z => dGet2 x k z
  | none => .no
theorem dctOf_isD {x : V} {d : D} {z : Bool × List (D × D)} (w : Wd K mg H ρ μ) (r : Rm K mg H ρ μ x d) (h : dctOf μ d = some z) : ∃ a, x = .ref a ∧ IsD H a := by
  obtain ⟨t, kds⟩ := z
  obtain ⟨a, e, hR⟩ := dctOf_rd w r h
  rcases hR with ⟨_, kvs, ds, h1, _⟩ | ⟨_, kvs, ds, h1, _⟩
  · exact ⟨a, e, .inl ⟨kvs, h1⟩⟩
  · exact ⟨a, e, .inr ⟨kvs, h1⟩⟩
theorem se_get2 {f : Expr} {mz : ME} {apos cpos : Pos} (hr : RmG k X.A) (ho : SE X W o mo) (he : SE X W e mi) (hf : SE X W f mz) (m : M2 X o "get" apos e f cpos := by exact ⟨rfl, rfl, rfl, rfl⟩) : SE X W (.Call (.Attribute o "get" apos) [e, f] [] cpos) (mGet2 mo mi mz) := by
  refine PE.imp (pe_dget2 (by have := hr.un; omega) ho he hf m) fun σ H Q ⟨ρ, μ, env, w, re, p⟩ => ?_
  refine ⟨ρ, μ, env, w, re, Post.imp (post_bind p) (fun v H1 ⟨d, ρ1, μ1, e1, w1, r1, p1⟩ => ?_) fun _ _ _ z => z⟩
  cases hd : dctOf μ1 d with
  | none => rw [hd] at p1; exact False.elim p1
  | some z =>
    rw [hd] at p1
    obtain ⟨a, ea, hD⟩ := dctOf_isD w1 r1 hd
    refine ⟨a, ea, hD, ρ1, μ1, env, w1, re.mono e1, Post.imp (post_bind p1) (fun v2 H2 ⟨d2, ρ2, μ2, e2, w2, r2, p2⟩ => ?_) fun _ _ _ z => z⟩
    refine ⟨ρ2, μ2, env, w2, (re.mono e1).mono e2, Post.imp (post_bind p2) (fun v3 H3 ⟨d3, ρ3, μ3, e3, w3, r3, p3⟩ => ?_) fun _ _ _ z => z⟩
    unfold dGet2 at p3
    cases hd3 : dctOf μ3 d with
    | none => rw [hd3] at p3; exact False.elim p3
    | some z3 =>
      obtain ⟨t, kds⟩ := z3
      rw [hd3] at p3
      dsimp only at p3
      by_cases hk : keyOk t d2 = true
      · rw [if_pos hk] at p3
        obtain ⟨a', ov, ea', g, g1, g2⟩ := dctOf_get w3 ((r1.mono e2.x).mono e3.x) (r2.mono e3.x) hd3 hk
        have eaa : a' = a := V.ref.inj (ea'.symm.trans ea)
        subst eaa
        refine ⟨ov, g, ?_⟩
        cases ov with
        | none =>
          rw [g2 rfl] at p3
          exact Post.ok w3 p3 r3
        | some v0 =>
          obtain ⟨e0, h1, h2⟩ := g1 v0 rfl
          rw [h1] at p3
          exact Post.ok w3 p3 h2
      · rw [if_neg hk] at p3
        exact False.elim p3
def repD (xs : List D) (n : Int) : List D := (List.replicate n.toNat xs).flatten
def dRep (k : List D → M D) : D → D → M D := fun a b μ => match celL μ a, b with
  | some (_, xs), .int n => if -(2 ^ 63) ≤ n ∧ n < 2 ^ 63 ∧ xs.length * n.toNat ≤ lim then k (repD xs n) μ else .no
  | _, _ => .no
theorem RL.rep {Lv : Addr → Prop} {cs : List Addr} {vs : List V} {ds : List D} (r : RL K mg H Lv cs vs ds) : ∀ n : Nat, RL K mg H Lv cs (List.replicate n vs).flatten (List.replicate n ds).flatten
  | 0 => .nil
  | n + 1 => by
    rw [List.replicate_succ, List.replicate_succ, List.flatten_cons, List.flatten_cons]
    exact r.append (r.rep n)
theorem m_rep {k : List D → M D} (hk : NewK k) : OpM K mg rRep (dRep k) := by
  intro H ρ μ x y a b Q E w rx ry p
  unfold dRep at p
  split at p
  · rename_i j xs n h
    by_cases hc : -(2 ^ 63) ≤ n ∧ n < 2 ^ 63 ∧ xs.length * n.toNat ≤ lim
    · rw [if_pos hc] at p
      obtain ⟨l, ws, e1, e2, hcc, hm, hH, rl⟩ := celL_ok w rx h
      cases ry
      refine ⟨l, n, ws, e1, rfl, hH, hc.1, hc.2.1, ?_, ?_⟩
      · rw [rl.length]
        exact lim_line hc.2.2
      · exact hk _ _ _ _ _ _ _ _ _ w (rl.rep n.toNat) p
    · rw [if_neg hc] at p
      exact False.elim p
  · exact False.elim p
theorem rgV_rel {Lv : Addr → Prop} {cs : List Addr} {lo hi : Int} : RL K mg H Lv cs (rgV lo hi) (rangeL lo hi) := by
  have key : ∀ l : List Nat, RL K mg H Lv cs (l.map fun i => V.int (lo + (i : Nat))) (l.map fun i => D.int (lo + (i : Nat))) := by
    intro l
    induction l with
    | nil => exact .nil
    | cons a l ih => exact .cons (.int _) ih
  exact key _
def dLrg (k : List D → M D) : List D → M D := fun ds μ => match ds with
  | [.int n] => if -(2 ^ 62) ≤ n ∧ n < 2 ^ 62 ∧ n.toNat ≤ lim then k (rangeL 0 n) μ else .no
  | [.int a, .int b] => if -(2 ^ 62) ≤ a ∧ a < 2 ^ 62 ∧ -(2 ^ 62) ≤ b ∧ b < 2 ^ 62 ∧ (b - a).toNat ≤ lim then k (rangeL a b) μ else .no
  | _ => .no
theorem se_lrg1 {k : List D → M D} {p0 : Pos} (hk : NewK k) (hc : X.calm = true) (hm : X.mg "list" = none) (hm2 : X.mg "range" = none) (ha : SE X W a ma) (hg : Gl X "list" := by rfl) (hg2 : Gl X "range" := by rfl)
    (na : starEach [a] X.env = (false, eval a X.env) :: starEach [] X.env := by rfl) (na2 : starEach [.Call (.Name "range" p) [a] [] p2] X.env = (false, eval (.Call (.Name "range" p) [a] [] p2) X.env) :: starEach [] X.env := by rfl) :
    SE X W (.Call (.Name "list" p0) [.Call (.Name "range" p) [a] [] p2] [] pos) (mCall (dLrg k) (mCons ma mNil)) := by
  refine PE.imp (pe_listRg hc hg hm (prg_1 hg2 hm2 ha na) na2) fun σ H Q ⟨ρ, μ, env, w, re, p⟩ => ?_
  refine ⟨ρ, μ, env, w, re, ?_⟩
  cases h1 : ma env μ with
  | no => unfold mCall mCons at p; rw [h1] at p; exact False.elim p
  | ex c x m => unfold mCall mCons at p; rw [h1] at p; exact p
  | ok d m1 =>
    intro v H1 ρ1 e1 w1 r1
    unfold mCall mCons at p
    rw [h1] at p
    have p1 : Post X.K X.mg (dLrg k [d] m1) H1 ρ1 m1 Q (fun c od H' => W c od σ H') := Post.base e1 p
    cases r1 with
    | int n =>
      unfold dLrg at p1
      dsimp only at p1
      by_cases hcc : -(2 ^ 62) ≤ n ∧ n < 2 ^ 62 ∧ n.toNat ≤ lim
      · rw [if_pos hcc] at p1
        have hl := hcc.2.2
        unfold lim at hl
        exact ⟨n, rfl, ⟨by decide, by decide, hcc.1, hcc.2.1, by rw [Int.sub_zero]; omega⟩, hk _ _ _ _ _ _ _ _ _ w1 rgV_rel p1⟩
      · rw [if_neg hcc] at p1
        exact False.elim p1
    | _ => exact False.elim p1
def sPar3 (i j l : Nat) (ml : ML) : MS := fun env μ => (ml env μ).st env fun ds m => match ds with
  | [x, y, z] => .nx (((env.set i (some x)).set j (some y)).set l (some z)) m
  | _ => .no
theorem s_par3 {i j l : Nat} {x y z : Str} {px py pz pt pt2 : Pos} {kt k2 : Nat} (ha : SA X W [a, b, c] ml)
    (h : ∀ ta, PA X [a, b, c] ta → PS X (.Assign [.Tuple [.Name x px, .Name y py, .Name z pz] kt pt] (.Tuple [a, b, c] k2 pt2) pos) (tPar3 i j l ta)) :
    SS X W (.Assign [.Tuple [.Name x px, .Name y py, .Name z pz] kt pt] (.Tuple [a, b, c] k2 pt2) pos) (sPar3 i j l ml) := by
  refine PS.imp (h _ ha) fun Dn σ H ⟨ρ, μ, env, w, re, p⟩ => ?_
  refine ⟨ρ, μ, env, w, re, PostL.imp (postL_st re p) (fun v H1 ⟨ds, ρ1, μ1, e1, w1, re1, r1, p1⟩ => ?_) fun _ _ _ z => z⟩
  cases r1 with
  | nil => exact False.elim p1
  | cons ra t =>
    cases t with
    | nil => exact False.elim p1
    | cons rb t =>
      cases t with
      | nil => exact False.elim p1
      | cons rc t =>
        cases t with
        | nil => exact ⟨_, _, _, rfl, p1 _ H1 ρ1 Exm.refl w1 (((re1.set i ra).set j rb).set l rc)⟩
        | cons _ _ => exact False.elim p1
end
end
end CL

namespace CL
open PySem L2 PySem.Spec PyProof.Rows
section
variable {X : Cx} {W : WX} {a b c e : Expr} {es : List Expr} {pos p : Pos} {ma mb : ME} {ml : ML} {k n : Nat}
theorem un64 {A : Around} (hr : RmG k A) : A.units + 64 < cLine := by
  have := hr.un
  omega
theorem inD_in {σ : L2.St} {H : Hp} {Q : VK} (h : tM X.K X.mg W (mBin (dInD false) ma mb) σ H Q) : tDIn (tM X.K X.mg W ma) (tM X.K X.mg W mb) σ H Q := by
  obtain ⟨ρ, μ, env, w, re, p⟩ := h
  refine ⟨ρ, μ, env, w, re, Post.imp (post_bind p) (fun v H1 ⟨d, ρ1, μ1, e1, w1, r1, p1⟩ => ?_) fun _ _ _ z => z⟩
  refine ⟨ρ1, μ1, env, w1, re.mono e1, Post.imp (post_bind p1) (fun v2 H2 ⟨d2, ρ2, μ2, e2, w2, r2, p2⟩ => ?_) fun _ _ _ z => z⟩
  unfold dInD at p2
  cases hx : dctOf μ2 d2 with
  | none => rw [hx] at p2; exact False.elim p2
  | some z =>
    obtain ⟨t, kds⟩ := z
    rw [hx] at p2
    dsimp only at p2
    split at p2
    · rename_i hk
      obtain ⟨a', o, ea, g, g1, g2⟩ := dctOf_get w2 r2 (r1.mono e2.x) hx hk
      have eo : o.isSome = (dget kds d).isSome := by
        cases o with
        | none => rw [g2 rfl]; rfl
        | some vv =>
          obtain ⟨dd, h1, _⟩ := g1 vv rfl
          rw [h1]
          rfl
      refine ⟨a', o, ea, g, ?_⟩
      rw [eo]
      exact Post.ok w2 p2 (.bl _)
    · exact False.elim p2
theorem notinD_in {σ : L2.St} {H : Hp} {Q : VK} (h : tM X.K X.mg W (mBin (dInD true) ma mb) σ H Q) : tDNotIn (tM X.K X.mg W ma) (tM X.K X.mg W mb) σ H Q := by
  obtain ⟨ρ, μ, env, w, re, p⟩ := h
  refine ⟨ρ, μ, env, w, re, Post.imp (post_bind p) (fun v H1 ⟨d, ρ1, μ1, e1, w1, r1, p1⟩ => ?_) fun _ _ _ z => z⟩
  refine ⟨ρ1, μ1, env, w1, re.mono e1, Post.imp (post_bind p1) (fun v2 H2 ⟨d2, ρ2, μ2, e2, w2, r2, p2⟩ => ?_) fun _ _ _ z => z⟩
  unfold dInD at p2
  cases hx : dctOf μ2 d2 with
  | none => rw [hx] at p2; exact False.elim p2
  | some z =>
    obtain ⟨t, kds⟩ := z
    rw [hx] at p2
    dsimp only at p2
    split at p2
    · rename_i hk
      obtain ⟨a', o, ea, g, g1, g2⟩ := dctOf_get w2 r2 (r1.mono e2.x) hx hk
      have eo : o.isSome = (dget kds d).isSome := by
        cases o with
        | none => rw [g2 rfl]; rfl
        | some vv =>
          obtain ⟨dd, h1, _⟩ := g1 vv rfl
          rw [h1]
          rfl
      refine ⟨a', o, ea, g, ?_⟩
      rw [eo]
      exact Post.ok w2 p2 (.bl _)
    · exact False.elim p2
theorem bval_in {m : ME} {σ : L2.St} {H : Hp} {Q : Bool → Hp → Prop} (h : tMB X.K X.mg W (bVal m) σ H Q) : tM X.K X.mg W m σ H (fun x H1 => ∃ k, x = .bl k ∧ Q k H1) := by
  obtain ⟨ρ, μ, env, w, re, p⟩ := h
  refine ⟨ρ, μ, env, w, re, Post.imp (post_bindB p) (fun v H1 ⟨d, ρ1, μ1, e1, w1, r1, p1⟩ => ?_) fun _ _ _ z => z⟩
  cases r1 with
  | bl t => exact ⟨t, rfl, p1 H1 ρ1 Exm.refl w1⟩
  | _ => exact False.elim p1
theorem PT.or {t t' : TT} (h : PT X e t) (h' : PT X e t') : PT X e (fun σ H Q => t σ H Q ∨ t' σ H Q) := ⟨fun pins s σ H Q I q => by
  rcases q with q | q
  · exact h.run pins s σ H Q I q
  · exact h'.run pins s σ H Q I q⟩
theorem op_in {r : R2} {g : D → D → M D} {σ : L2.St} {H : Hp} {Q : VK} (hg : OpM X.K X.mg r g) (h : tM X.K X.mg W (mBin g ma mb) σ H Q) : tOp r (tM X.K X.mg W ma) (tM X.K X.mg W mb) σ H Q := by
  obtain ⟨ρ, μ, env, w, re, p⟩ := h
  refine ⟨ρ, μ, env, w, re, Post.imp (post_bind p) (fun v H1 ⟨d, ρ1, μ1, e1, w1, r1, p1⟩ => ?_) fun _ _ _ z => z⟩
  refine ⟨ρ1, μ1, env, w1, re.mono e1, Post.imp (post_bind p1) (fun v2 H2 ⟨d2, ρ2, μ2, e2, w2, r2, p2⟩ => ?_) fun _ _ _ z => z⟩
  exact hg H2 ρ2 μ2 v v2 d d2 _ _ w2 (r1.mono e2.x) r2 p2
theorem dIn_or {neg : Bool} {σ : L2.St} {H : Hp} {Q : VK} (h : tM X.K X.mg W (mBin (dIn neg) ma mb) σ H Q) : tM X.K X.mg W (mBin (dInD neg) ma mb) σ H Q ∨ tM X.K X.mg W (mBin (inOf neg) ma mb) σ H Q :=
  bin_or (c := fun a b μ => (dctOf μ b).isSome) (fun a b μ hc => by unfold dIn; obtain ⟨z, hz⟩ := Option.isSome_iff_exists.mp hc; rw [hz]) (fun a b μ hc => by unfold dIn; cases hz : dctOf μ b with
    | none => rfl
    | some z => rw [hz] at hc; exact nomatch hc) h
theorem sb_in (hr : RmG k X.A) (ha : SE X W a ma) (hb : SE X W b mb) (hm : behindInMarks .In b = false := by rfl) : ST X W (.Compare a [.In] [b] pos) (bVal (mBin (dIn false) ma mb)) := by
  refine PT.imp (PT.or (pt_cmp (pc_din (hu_of hr.toRoom) ha hb) hm) (pt_cmpR (op_inA hr) ha hb hm)) fun σ H Q h => ?_
  rcases dIn_or (bval_in h) with h | h
  · exact .inl (inD_in h)
  · exact .inr (op_in m_in h)
theorem sb_notin (hr : RmG k X.A) (ha : SE X W a ma) (hb : SE X W b mb) (hm : behindInMarks .NotIn b = false := by rfl) : ST X W (.Compare a [.NotIn] [b] pos) (bVal (mBin (dIn true) ma mb)) := by
  refine PT.imp (PT.or (pt_cmp (pc_dnotin (hu_of hr.toRoom) ha hb) hm) (pt_cmpR (op_notInA hr) ha hb hm)) fun σ H Q h => ?_
  rcases dIn_or (bval_in h) with h | h
  · exact .inl (notinD_in h)
  · exact .inr (op_in m_notin h)
/-- ==, != : texts by themselves -/
def dEqA : D → D → M D := fun a b μ => match a, b with
  | .str x, .str y => .ok (.bl (decide (x = y))) μ
  | a, b => dEq a b μ
def dNeA : D → D → M D := fun a b μ => match a, b with
  | .str x, .str y => .ok (.bl (!decide (x = y))) μ
  | a, b => dNe a b μ
def rEqA (K : PySem.W.Frag) : R2 := fun x y H Q => rEq x y H Q ∨ rEqD K x y H Q
def rNeA (K : PySem.W.Frag) : R2 := fun x y H Q => rNe x y H Q ∨ rNeD K x y H Q
theorem op_eqA (hu : X.A.units + 64 < cLine) : OpR X (compareOp .Eq) (rEqA X.K) := OpR.or op_eq (op_eqD hu)
theorem op_neA (hu : X.A.units + 64 < cLine) : OpR X (compareOp .NotEq) (rNeA X.K) := OpR.or op_ne (op_neD hu)
theorem dec_strs {x y : Str} : decide (V.str x = V.str y) = decide (x = y) := by
  by_cases h : x = y
  · subst h
    simp
  · rw [decide_eq_false h, decide_eq_false (fun z => h (V.str.inj z))]
theorem m_eqA {K : PySem.W.Frag} {mg : Str → Option Value} : OpM K mg (rEqA K) dEqA := by
  intro H ρ μ x y a b Q E w rx ry p
  unfold dEqA at p
  split at p
  · cases rx
    cases ry
    exact .inl ⟨rfl, by rw [dec_strs]; exact Post.ok w p (.bl _)⟩
  · exact .inr (m_eq H ρ μ x y _ _ Q E w rx ry p)
theorem m_neA {K : PySem.W.Frag} {mg : Str → Option Value} : OpM K mg (rNeA K) dNeA := by
  intro H ρ μ x y a b Q E w rx ry p
  unfold dNeA at p
  split at p
  · cases rx
    cases ry
    exact .inl ⟨rfl, by rw [dec_strs]; exact Post.ok w p (.bl _)⟩
  · exact .inr (m_ne H ρ μ x y _ _ Q E w rx ry p)
end
end CL

set_option maxHeartbeats 4000000
namespace PySem
namespace XKw
open PySem.W PySem.Calls PyProof.Rows PySem.HandSPX
open Builtin Builtin.ObjectAttr
section
variable {M : Model} {A : Around} {E : Value → Shared → Prop} {h : Heap} {g : Array GenState} {d : Drawn} {t : Nat} {os : OsState}
variable {nm q : Str} {C N : Addr} {bs bm bmB : List Value} {hdct : Bool} {sn : List Str} {sub : List Value} {ab : Bool} {col : Option Bool} {dd : Option Addr} {k0 k1 k2 k3 k5 : Option Value} {B newId initId : String}
theorem new_check (FB : ExcBaseFacts B newId initId bmB) (hB : bm.contains (.type B) = true ∧ bm.contains (.type "AttributeError") = false ∧ bm.contains (.type "NameError") = false) {us : List Value} {kw : List (Str × Value)} {Q : Unit → Shared → Prop}
    (hC : h.get? C = some (excClassObj nm q C N bs bm hdct sn sub ab col dd k0 k1 k2 k3 k5 newId)) (hq : Q () ⟨h, g, d, t, os⟩) : wpAny M A (checkBuiltinCall newId ⟨.ref C :: us, kw⟩) Q E ⟨h, g, d, t, os⟩ := by
  have c1 : (Value.ref C :: bm).contains (.type B) = true := by
    rw [List.contains_cons, hB.1, Bool.or_true]
  have c2 := FB.noStar
  simp only [checkBuiltinCall, FB.newKind, FB.newSplit, FB.newRow]
  repeat (first
    | refine wpAny_loadPart_at hC ?_
    | (refine wpAny_isSubtype_exc hC ?_; rw [c1])
    | refine wpAny_staticBase_exc hC ?_
    | refine wpAny_madeBy_exc hC ?_
    | simp only [bne_self_eq_false, Bool.false_eq_true, if_false]
    | wp_step)
  exact hq
end
section
variable {prog : Program} {w : World} {A : Around} {E : Value → Shared → Prop} {R : Result → Shared → Prop} {h : Heap} {g : Array GenState} {d : Drawn} {t : Nat} {os : OsState}
variable {nm q : Str} {C N : Addr} {bs bm bmB : List Value} {hdct : Bool} {sn : List Str} {sub : List Value} {ab : Bool} {col : Option Bool} {dd : Option Addr} {k0 k1 k2 k3 k5 : Option Value} {B newId initId : String}
theorem new_kw (FB : ExcBaseFacts B newId initId bmB) (hB : bm.contains (.type B) = true ∧ bm.contains (.type "AttributeError") = false ∧ bm.contains (.type "NameError") = false) {us : List Value} {kw : List (Str × Value)}
    (hC : h.get? C = some (excClassObj nm q C N bs bm hdct sn sub ab col dd k0 k1 k2 k3 k5 newId))
    (hq : R (.ok (.ret (.ref (h.objs.size + 1)))) ⟨(h.push (W.kdv_tup us)).push (excO C h.objs.size), g, d, t, os⟩) (hz : us.length ≤ sizeLine) :
    codeAny (model prog w) A (.builtin newId ⟨.ref C :: us, kw⟩) R ⟨h, g, d, t, os⟩ := by
  have c0 := FB.ends
  have c1 : (Value.ref C :: bm).contains (.type B) = true := by
    rw [List.contains_cons, hB.1, Bool.or_true]
  have c2 : (Value.ref C :: bm).contains (.type "AttributeError") = false := by
    rw [List.contains_cons, hB.2.1] <;> rfl
  have c3 : (Value.ref C :: bm).contains (.type "NameError") = false := by
    rw [List.contains_cons, hB.2.2] <;> rfl
  refine codeAny_builtinAt FB.entry ?_
  unfold Builtin.«BaseException.__new__»
  refine wpAt_bind ?_
  show wpAt _ _ _ (stack >>= _) _ _ _
  refine wpAt_bind (wpAt_stack fun p below => wpAt_of_wpAny ?_)
  wp_walk
  refine wpAt_of_wpAny ?_
  rw [FB.owner]
  repeat (first
    | with_reducible refine wpAny_madeHere_exc FB.canon hC ?_
    | with_reducible refine wpAny_loadPart_at hC ?_
    | (with_reducible refine wpAny_isSubtype_exc hC ?_; first | rw [c1] | rw [c2] | rw [c3])
    | wp_step)
  show R _ _
  rw [Heap.size_push]
  exact hq
theorem type_kw (FB : ExcBaseFacts B newId initId bmB) (hB : bm.contains (.type B) = true ∧ bm.contains (.type "AttributeError") = false ∧ bm.contains (.type "NameError") = false) {us : List Value} {kw : List (Str × Value)} {fI : Addr} {Q : Fin → Shared → Prop}
    (hC : h.get? C = some (excClassObj nm q C N bs bm hdct sn sub ab col dd k0 k1 k2 k3 k5 newId))
    (hi : W.Looks (model prog w) h (typeLookup (.ref C) "__init__") (some (.ref fI))) (hb : ∀ self, W.Looks (model prog w) h (bindSpecial (.ref fI) self) (.ref fI, [self])) (hz : us.length ≤ sizeLine)
    (hq : codeAny (model prog w) A (.call (.ref fI) ⟨.ref (h.objs.size + 1) :: us, kw⟩)
      (fun r s1 => match r with | .ok (.ret v) => v = .none ∧ Q (.done (.ret (.ref (h.objs.size + 1)))) s1 | .ok _ => False | .error e => E e s1)
      ⟨(h.push (W.kdv_tup us)).push (excO C h.objs.size), g, d, t, os⟩) :
    wpAny (model prog w) A (Builtin.«type.__call__» ⟨.ref C :: us, kw⟩) Q E ⟨h, g, d, t, os⟩ := by
  repeat (first
    | with_reducible refine wpAny_loadPart_at hC ?_
    | with_reducible refine wpAny_madeBy_exc hC ?_
    | wp_step)
  refine codeAny_call_builtin_code (Code.quiet_builtin _ FB.quiet) (new_check FB hB hC ?_)
  refine new_kw FB hB hC ?_ hz
  show wpAny _ _ _ _ _ _
  have kk : ∀ b o, h.get? b = some o → ((h.push (W.kdv_tup us)).push (excO C h.objs.size)).get? b = some o := fun b o e =>
    Heap.get?_push_of_some _ (Heap.get?_push_of_some _ e)
  have C1 := kk _ _ hC
  have E1 : ((h.push (W.kdv_tup us)).push (excO C h.objs.size)).get? (h.objs.size + 1) = some (excO C h.objs.size) := by
    heap_get
  have cC : (Value.ref C :: bm).contains (.ref C) = true := by
    simp
  have i1 := hi.keeps kk
  have b1 := (hb (.ref (h.objs.size + 1))).keeps kk
  unfold isInstance
  repeat (first
    | with_reducible refine wpAny_loadPart_at E1 ?_
    | (with_reducible refine wpAny_isSubtype_exc C1 ?_; rw [cC])
    | wp_step)
  show wpAny _ _ (typeLookup (.ref C) _) _ _ _
  refine i1.at ?_
  refine wpAny_holding (wpAny_bind (b1.at ?_))
  refine wpAny_bind (wpAny_call (codeAny_mono hq fun r s1 z => ?_))
  cases r with
  | error e => exact z
  | ok fl =>
    cases fl with
    | ret v =>
      obtain ⟨rfl, z⟩ := z
      first
        | exact wpAny_pure (wpAny_pure z)
        | (wp_walk; first | exact z | skip)
    | next => exact z.elim
    | brk => exact z.elim
    | cont => exact z.elim
theorem call_kw (FB : ExcBaseFacts B newId initId bmB) (hB : bm.contains (.type B) = true ∧ bm.contains (.type "AttributeError") = false ∧ bm.contains (.type "NameError") = false) {us : List Value} {kw : List (Str × Value)} {fI : Addr}
    (hC : h.get? C = some (excClassObj nm q C N bs bm hdct sn sub ab col dd k0 k1 k2 k3 k5 newId))
    (hi : W.Looks (model prog w) h (typeLookup (.ref C) "__init__") (some (.ref fI))) (hb : ∀ self, W.Looks (model prog w) h (bindSpecial (.ref fI) self) (.ref fI, [self])) (hz : us.length ≤ sizeLine)
    (hq : codeAny (model prog w) (A.under (.builtin "type.__call__" ⟨.ref C :: us, kw⟩)) (.call (.ref fI) ⟨.ref (h.objs.size + 1) :: us, kw⟩) (W.InitBack (h.objs.size + 1) R)
      ⟨(h.push (W.kdv_tup us)).push (excO C h.objs.size), g, d, t, os⟩) :
    codeAny (model prog w) A (.call (.ref C) ⟨us, kw⟩) R ⟨h, g, d, t, os⟩ := by
  have l1 := tc_lookup
  have l2 := tc_bind (.ref C)
  have ty : (⟨h, g, d, t, os⟩ : Shared).TypeIs (.ref C) "type" := ⟨_, hC, rfl⟩
  refine codeAny_of_tree ?_
  show wpAny _ _ (callAny (.ref C) _) _ _ _
  repeat (any_goals (first
    | assumption
    | with_reducible refine wpAny_loadPart_at hC ?_
    | wp_step))
  refine ⟨rfl, ?_⟩
  refine codeAny_call_builtin_at (Code.quiet_builtin _ (by decide +kernel)) entry_typeCall (wpAny_check_type_call_sub hC (type_kw FB hB hC hi hb hz ?_))
  refine codeAny_mono hq fun r s1 z => ?_
  cases r with
  | error e => exact z
  | ok fl => cases fl <;> exact z
end
end XKw
end PySem

set_option maxHeartbeats 4000000
namespace PySem
namespace XKw
open PySem.W PySem.Calls PyProof.Rows PySem.HandSPX
open Builtin Builtin.ObjectAttr
section
variable {prog : Program} {w : World} {A : Around} {E : Value → Shared → Prop} {R : Result → Shared → Prop} {hp : Heap} {g : Array GenState} {d : Drawn} {t : Nat} {os : OsState} {B : String} {bmB : List Value}
theorem osa_x {K : W.Frag} {name : Str} {tk : Tok} {v : Value} {x C : Addr} {fv : Array Value} (SF : StoreFacts B bmB "object.__setattr__" "object") (X : K.In hp) (hx : hp.get? x = some { cls := .ref C, data := .fields fv })
    (ov : excOver K C bmB = true) (hd : W.hasDictIn K C = true) (ha : W.findIn K (.ref C) name = some none)
    (hq : ∀ h1 tk1 dx, (∀ b o, b ≠ x → hp.get? b = some o → h1.get? b = some o) → hp.objs.size ≤ dx → dx ≠ x → h1.get? x = some { cls := .ref C, dict := some dx, data := .fields fv } →
      h1.Ns1 dx (fun y => if y = name then some v else none) → R (.ok (.ret .none)) ⟨h1, g, d, tk1, os⟩) :
    codeAny (model prog w) A (.call (.builtin "object.__setattr__") ⟨[.ref x, .str name tk, v], []⟩) R ⟨hp, g, d, t, os⟩ := by
  have I : W.InstAt hp x { cls := .ref C, data := .fields fv } C none := ⟨hx, rfl, rfl, trivial⟩
  obtain ⟨cd, hcd, hh⟩ := W.any_some hd
  have ne : x ≠ hp.objs.size := Nat.ne_of_lt (Heap.lt_size hx)
  have Lc : W.Looks (model prog w) hp (classData C) cd := W.looks_clsIn X hcd
  refine osa_openX (s := ⟨hp, g, d, t, os⟩) SF X I ov (L2.NoAttr.taker ha) fun b => ?_
  show wpAny _ _ (storeInOwnDict (.ref x) (.ref C) (.str name tk) name v b) _ _ _
  obtain ⟨nm, bs, mro, ns, qn, hdi, sn, sb, ab, col, del⟩ := cd
  dsimp only at hh
  subst hh
  unfold storeInOwnDict ownDictForStores
  repeat (first
    | with_reducible refine store_in_new ?_ ?_
    | with_reducible refine wpAny_loadPart_at hx ?_
    | with_reducible refine Lc.at ?_
    | wp_step)
  · exact ⟨_, #[], _, (Heap.get?_update_ne _ _ _ _ ne.symm).trans (Heap.get?_push_at rfl rfl), rfl, fun e he => absurd he (by simp), fun _ => rfl⟩
  · intro h1 tk1 hn1 hs
    have hx1 : (hp.push { cls := .type "dict", data := .dict #[] }).get? x = some { cls := .ref C, data := .fields fv } :=
      Heap.get?_push_of_some _ hx
    refine hq h1 tk1 hp.objs.size (fun b o hb ho => ?_) (Nat.le_refl _) ne.symm ?_ hn1
    · exact (hs.2 b (Nat.ne_of_lt (Heap.lt_size ho))).trans
        ((Heap.get?_update_ne _ _ _ _ hb).trans (Heap.get?_push_of_some _ ho))
    · exact (hs.2 x ne).trans
        (Heap.get?_update_self _ hx1 rfl)
end
end XKw
end PySem
namespace CL
open PySem L2 PySem.Spec PyProof.Rows
/-- what an own exception class right over the built-in base with the mro bmB has -/
structure XC (K : PySem.W.Frag) (C : Addr) (bmB : List Value) (newId : String) : Prop where
  init : PySem.W.excInitIn K C bmB newId = true
  over : PySem.W.excOver K C bmB = true
  sa : PySem.W.findIn K (.ref C) "__setattr__" = some (some (.builtin "object.__setattr__"))
  kC : PySem.W.keepIn K (.ref C) = true
  hd : PySem.W.hasDictIn K C = true
  ga : PySem.W.findIn K (.ref C) "__getattribute__" = some (some (.builtin "BaseException.__getattribute__"))
  gg : PySem.W.findIn K (.ref C) "__getattr__" = some none
  sub : PySem.W.subIn K (.ref C) (.type "BaseException") = some true
  ha : PySem.W.findIn K (.ref C) "__class__" = some (some (.builtin "object.__class__"))
  hn : PySem.W.specialIn K (.builtin "object.__class__") "__get__" = some (some (.builtin "getset_descriptor.__get__"))
  ht : PySem.W.takesIn K (.builtin "object.__class__") = some true
  hm : PySem.W.mroIn K C (.type "object") = some true
def xcB (K : PySem.W.Frag) (C : Addr) (bmB : List Value) (newId : String) : Bool :=
  PySem.W.excInitIn K C bmB newId && (PySem.W.excOver K C bmB && (decide (PySem.W.findIn K (.ref C) "__setattr__" = some (some (.builtin "object.__setattr__"))) && (PySem.W.keepIn K (.ref C) && (PySem.W.hasDictIn K C &&
  (decide (PySem.W.findIn K (.ref C) "__getattribute__" = some (some (.builtin "BaseException.__getattribute__"))) && (decide (PySem.W.findIn K (.ref C) "__getattr__" = some none) && (decide (PySem.W.subIn K (.ref C) (.type "BaseException") = some true) &&
  (decide (PySem.W.findIn K (.ref C) "__class__" = some (some (.builtin "object.__class__"))) && (decide (PySem.W.specialIn K (.builtin "object.__class__") "__get__" = some (some (.builtin "getset_descriptor.__get__"))) &&
  (decide (PySem.W.takesIn K (.builtin "object.__class__") = some true) && decide (PySem.W.mroIn K C (.type "object") = some true)))))))))))
theorem xcB_ok {K : PySem.W.Frag} {C : Addr} {bmB : List Value} {newId : String} (h : xcB K C bmB newId = true) : XC K C bmB newId := by
  unfold xcB at h
  simp only [Bool.and_eq_true, decide_eq_true_eq] at h
  obtain ⟨a, b, c, d, e, f, g, i, j, k, l, m⟩ := h
  exact ⟨a, b, c, d, e, f, g, i, j, k, l, m⟩
section
variable {X : Cx} {pins : List (Addr × Obj)} {σ : L2.St} {H : Hp} {s : Shared} {a C dx : Addr} {f : Str} {y : V} {u : Value} {Q : Unit → Shared → Prop} {E : Value → Shared → Prop} {A : Around} {B newId : String} {bmB : List Value}
theorem ost_x (SF : StoreFacts B bmB "object.__setattr__" "object") (T : XC X.K C bmB newId) (I : Inv X pins σ H s) (e : H a = some (exo a C none)) (hno : PySem.W.findIn X.K (.ref C) f = some none) (ry : RelV y u)
    (h : ∀ dx s1, H dx = none → dx ≠ a → Inv X pins σ (upd (upd H dx (exd dx [(f, y)])) a (exo a C (some dx))) s1 → Q () s1) : wpAny (model X.prog X.w) A (setAttr (.ref a) f u) Q E s := by
  obtain ⟨t1, ho⟩ := exo_at I.hok e
  obtain ⟨hp, g, d, t, os⟩ := s
  refine PySem.W.set_plain I.kIn (ox := { cls := .ref C, dict := none, data := .fields #[.ref t1, .none, .none, .none, .bool false, .none] }) (od := none) ⟨ho, rfl, rfl, trivial⟩ T.sa ?_
  refine PySem.XKw.osa_x SF I.kIn ho T.over T.hd hno (fun h1 tk1 dx k dn dne hx hn => ?_)
  have nd0 : H dx = none := I.hok.fresh dn
  have nd : ∀ {b : Addr} {o : Obj}, hp.get? b = some o → b ≠ dx := fun {b o} q =>
    Nat.ne_of_lt (Nat.lt_of_lt_of_le (Heap.lt_size q) dn)
  have na : ∀ {b : Addr}, H b = none → b ≠ a := fun {b} n z => by
    rw [z, e] at n
    exact nomatch n
  have U : Un X.fs [] H (upd (upd H dx (exd dx [(f, y)])) a (exo a C (some dx))) hp h1 :=
    { keep := fun b o q n _ _ => k b o (na n) q, slot := fun b o q n _ _ => ⟨o.slots, k b o (na n) q⟩
      free := fun b o q n _ => by
        rw [upd_ne (na n)]
        rw [upd_ne (nd q)]
        exact n
      there := fun b o q _ => by
        by_cases hb : b = a
        · subst hb
          exact ⟨_, hx⟩
        · exact ⟨o, k b o hb q⟩
      tups := fun b xs q => by
        rw [upd_ne (at_ne e q exo_tup)]
        rw [upd_ne (ne_of_none q nd0)]
        exact q
      frzs := fun b o v q => by
        rw [upd_ne (at_ne e q exo_frz)]
        rw [upd_ne (ne_of_none q nd0)]
        exact q
      tbls := fun b ps q => ⟨#[], by
        rw [upd_ne (at_ne e q exo_tbl)]
        rw [upd_ne (ne_of_none q nd0), q]
        simp⟩ }
  refine h dx _ nd0 dne (I.un (t' := tk1) U fun b o q => ?_)
  by_cases hb : b = a
  · subst hb
    rw [upd_same] at q
    have eo := Option.some.inj q
    subst eo
    exact exo_ok hx
  · rw [upd_ne hb] at q
    by_cases hd : b = dx
    · subst hd
      rw [upd_same] at q
      have eo := Option.some.inj q
      subst eo
      exact exd_ok hn (relO_put (fs := []) ry fun g => True.intro)
    · rw [upd_ne hd] at q
      refine (I.hok b o q).stay (fun c v hc z => k c v ?_ z) (fun c hc => ?_) (fun c xs hc => ?_)
      · rcases hc with hc | hc
        · rw [hc]
          exact hb
        · exact at_ne e hc exo_own
      · rw [upd_ne (at_ne e hc exo_own)]
        rw [upd_ne (ne_of_none hc nd0)]
        exact hc
      · rw [upd_ne (at_ne e hc exo_tup)]
        rw [upd_ne (ne_of_none hc nd0)]
        exact hc
end
/-- self.f = y as the whole of __init__ -/
def tOstX (B newId : String) (bmB : List Value) (K : PySem.W.Frag) (f : Str) (to te : TE) : TS := fun Dn σ H => te σ H fun y H1 => to σ H1 fun x H2 => ∃ a C : Addr, x = .ref a ∧ XC K C bmB newId ∧ PySem.W.findIn K (.ref C) f = some none ∧
  H2 a = some (exo a C none) ∧ ∀ dx, H2 dx = none → dx ≠ a → Dn.nx σ (upd (upd H2 dx (exd dx [(f, y)])) a (exo a C (some dx)))
section
variable {X : Cx} {o e : Expr} {to te : TE} {f : Str} {p' pos : Pos} {B newId : String} {bmB : List Value}
theorem ps_ostX (SF : StoreFacts B bmB "object.__setattr__" "object") (ho : PE X o to) (he : PE X e te) (hs : swapsWith e (some (.Attribute o f p')) pos.line X.env = pure false := by rfl) : PS X (.Assign [.Attribute o f p'] e pos) (tOstX B newId bmB X.K f to te) := by
  refine ⟨fun pins s σ H D I h => ?_⟩
  refine plainObj_wpAny_Assign_Attribute (thn (he.run pins s σ H _ I h) fun v s1 hh => ?_) hs
  obtain ⟨y, H1, I1, r1, q1⟩ := hh
  refine thn (ho.run pins s1 σ H1 _ I1 q1) fun u s2 hh2 => ?_
  obtain ⟨x, H2, I2, r2, a, C, ex, T, hno, ea, q⟩ := hh2
  subst ex
  obtain rfl : u = Value.ref a := r2
  exact ost_x SF T I2 ea hno r1 fun dx s3 n ne J => ⟨σ, _, J, q dx n ne⟩
end
end CL

set_option maxHeartbeats 4000000
namespace CL
open PySem L2 PySem.Spec PyProof.Rows
def spX (K : PySem.W.Frag) (bmB : List Value) (newId : String) (f : Str) : Sp := fun vs H Q _ => ∃ (a C : Addr) (y : V), vs = [.ref a, y] ∧ XC K C bmB newId ∧ PySem.W.findIn K (.ref C) f = some none ∧ H a = some (exo a C none) ∧
  ∀ dx, H dx = none → dx ≠ a → Q .non (upd (upd H dx (exd dx [(f, y)])) a (exo a C (some dx)))
theorem initX_ok {P : Program} {w : World} {K : PySem.W.Frag} {mg : Str → Option Value} {base : Heap} {qual : Str} {params : Arguments} {scope : Scope} {fI : Addr} {fd : FuncData} {f : Str} {p1 p2 p3 pos : Pos} {B newId : String} {bmB : List Value} (SF : StoreFacts B bmB "object.__setattr__" "object")
    (F : FunD K "__init__" qual params [.Assign [.Attribute (.Name "self" p1) f p2] (.Name f p3) pos] scope [] [] fI fd) (S : FnScope ["self", f] ["self", f] scope)
    (h0 : scope.names.lookup ("self" : Str) = some NameKind.local) (h1 : scope.names.lookup f = some NameKind.local) (hd : (f == ("__debug__" : Str)) = false) (hcd : (f == ("__classdict__" : Str)) = false)
    (hs : ∀ env : PySem.Env, swapsWith (.Name f p3) (some (.Attribute (.Name "self" p1) f p2)) pos.line env = pure false) :
    FnOk P w K mg base (CXn P w) 1 fI fd ["self", f] (spX K bmB newId f) := by
  refine F.ok S (fun vs H Q E h => ?_) (fun cdv A outer s H vs Q E hr h => ⟨tOstX B newId bmB K f (tVar 0) (tVar 1), ?_, ?_⟩)
  · obtain ⟨a, C, y, rfl, _⟩ := h
    rfl
  · exact pss_one (ps_ostX SF (pe_var rfl (.inl h0) (by decide) (by decide)) (pe_var rfl (.inl h1) hd hcd) (hs _))
  · obtain ⟨a, C, y, rfl, T, hno, ea, q⟩ := h
    exact ⟨y, rfl, .ref a, rfl, a, C, rfl, T, hno, ea, q⟩
/-- an own exception class c whose __init__ stores its one argument in f -/
structure ClX (P : Program) (w : World) (K : PySem.W.Frag) (mg : Str → Option Value) (base : Heap) (c f : Str) (n : Nat) (ks : List Str) : Prop where
  ex : ∃ (C fI : Addr) (fd : FuncData) (B newId initId : String) (bmB bm1 : List Value), mg c = some (.ref C) ∧ (ExcBaseFacts B newId initId bm1 ∧ bmB.contains (.type B) = true ∧ bmB.contains (.type "AttributeError") = false ∧ bmB.contains (.type "NameError") = false) ∧ XC K C bmB newId ∧ PySem.W.findIn K (.ref C) "__init__" = some (some (.ref fI)) ∧ PySem.W.typeIn K (.ref fI) = some (.type "function") ∧
    PySem.W.findIn K (.ref C) f = some none ∧ FnOk P w K mg base (CXn P w) 1 fI fd ["self", f] (spX K bmB newId f) ∧ KBn K fd ["self", f] (n + 1) ks (fun us ws => us ++ ws) (fun vs zs => vs ++ zs)
theorem kbX {K : PySem.W.Frag} {x qual : Str} {params : Arguments} {body : List Stmt} {scope : Scope} {f : Addr} {fd : FuncData} {ps : List Str} (F : FunD K x qual params body scope [] [] f fd) (n : Nat) (ks : List Str)
    (h : ∀ (kV doc pm : Value) (an : Option Addr) (cdv ct : Value) (us ws : List Value), us.length = n → ws.length = ks.length → bindArgs (PySem.W.fnOf x qual params body scope .none kV doc pm an cdv ct) ⟨us, ks.zip ws⟩ = pure (ps.zip (us ++ ws))) :
    KBn K fd ps n ks (fun us ws => us ++ ws) (fun vs zs => vs ++ zs) := by
  obtain ⟨oc, od, dV, kV, doc, pm, an, cdv, ct, osl, rfl, lk, hcd, hD1, hK⟩ := F.ex
  rcases hD1 with ⟨_, rfl⟩ | ⟨e, _⟩
  · exact ⟨fun s us ws X l1 l2 => BindsTo.of_eq (h kV doc pm an cdv ct us ws l1 l2), fun r1 r2 => r1.append r2⟩
  · exact absurd rfl e
theorem upd_back {H : Hp} {a b : Addr} {o1 o2 o3 : HO} (hne : b ≠ a) : upd (upd (upd H a o1) b o2) a o3 = upd (upd H b o2) a o3 := by
  funext c
  by_cases hc : c = a
  · rw [hc, upd_same, upd_same]
  · rw [upd_ne hc, upd_ne hc]
    by_cases hb : c = b
    · rw [hb, upd_same, upd_same]
    · rw [upd_ne hb, upd_ne hb, upd_ne hc]
def gExc (c f : Str) : List D → M D := fun ds μ => match ds with
  | [y] => .ok (.exc c [(f, y)]) μ
  | _ => .no
section
variable {X : Cx} {W : WX} {o e : Expr} {es : List Expr} {kws : List Keyword} {ks : List Str} {p pos p2 : Pos} {k n : Nat} {ml mk : ML} {mo : ME} {c f : Str} {cs : List Str}
theorem se_exc (cl : ClX X.prog X.w X.K X.mg X.base c f n ks) (hr : RmG k X.A) (hk2 : 2 ≤ k) (tk : Takes X W) (hc : SC X W es kws ks ml mk)
    (hg : Gl X c := by rfl) (hdb : (c == ("__debug__" : Str)) = false := by decide) : SE X W (.Call (.Name c p) es kws pos) (mCallG n ks.length (fun ds es => ds ++ es) (gExc c f) ml mk) := by
  refine ⟨fun pins s σ H Q I h => ?_⟩
  obtain ⟨C, fI, fd, B, newId, initId, bmB, bm1, hm, ⟨FB, q1, q2, q3⟩, T, hI, tI, hno, FO, kb⟩ := cl.ex
  refine wpAny_Call_Name_kw (ld_glob I hg hm ?_ hdb)
  obtain ⟨ρ, μ, env, w, re, pp⟩ := h
  refine hc.run pos pins s σ H (.ref C) [] _ T.kC I (args_in w re pp fun vs zs H2 ds es ρ2 μ2 e2 w2 r2 z2 p2 => ?_)
  obtain ⟨⟨l1, l2⟩, p3⟩ := withLen_ok p2
  intro us ws s2 I2 ru rz
  have v1 : vs.length = n := r2.length.trans l1
  have v2 : zs.length = ks.length := z2.length.trans l2
  have rA := r2.append z2
  cases hyy : ds ++ es with
  | nil => rw [hyy] at p3; exact False.elim p3
  | cons dy rest =>
    cases rest with
    | cons _ _ => rw [hyy] at p3; exact False.elim p3
    | nil =>
      rw [hyy] at p3 rA
      obtain ⟨y, ey, ry⟩ : ∃ y, vs ++ zs = [y] ∧ Rm X.K X.mg H2 ρ2 μ2 y dy := by
        generalize hv : vs ++ zs = l at rA
        cases rA with
        | cons r t =>
          cases t
          exact ⟨_, rfl, r⟩
      obtain ⟨nm, N, qn, bs, bm, hdct, sn, sub, ab, col, dd, k0, k1, k2, k3, k5, hC, hT⟩ := PySem.W.excInit_of I2.kIn T.init
      obtain ⟨hp, g, dr, tk2, os⟩ := s2
      have hsz : hp.objs.size ≤ hp.objs.size + 1 := Nat.le_succ _
      have hn : H2 (hp.objs.size + 1) = none := I2.hok.fresh hsz
      have kk : ∀ b o, hp.get? b = some o → ((hp.push (PySem.W.kdv_tup us)).push (PySem.HandSPX.excO C hp.objs.size)).get? b = some o := fun b o e =>
        Heap.get?_push_of_some _ (Heap.get?_push_of_some _ e)
      have hget : ((hp.push (PySem.W.kdv_tup us)).push (PySem.HandSPX.excO C hp.objs.size)).get? (hp.objs.size + 1) = some (PySem.HandSPX.excO C hp.objs.size) := by
        heap_get
      have I3 : Inv X pins σ (upd H2 (hp.objs.size + 1) (exo (hp.objs.size + 1) C none)) ⟨(hp.push (PySem.W.kdv_tup us)).push (PySem.HandSPX.excO C hp.objs.size), g, dr, tk2, os⟩ :=
        I2.laid (t' := tk2) kk hsz (exo_ok hget)
      have rf : Vals ((V.ref (hp.objs.size + 1) :: vs) ++ zs) ((Value.ref (hp.objs.size + 1) :: us) ++ ws) := kb.rel (.cons rfl ru) rz
      have sp : spX X.K bmB newId f ((V.ref (hp.objs.size + 1) :: vs) ++ zs) (upd H2 (hp.objs.size + 1) (exo (hp.objs.size + 1) C none)) (fun v H3 => v = .non ∧ Q (.ref (hp.objs.size + 1)) H3) (WE W σ) := by
        refine ⟨_, C, y, by rw [List.cons_append, ey], T, hno, upd_same, fun dx hdx hne => ⟨rfl, ?_⟩⟩
        rw [upd_back hne]
        have hd2 : H2 dx = none := by
          rw [upd_ne hne] at hdx
          exact hdx
        have eA : Exm H2 ρ2 μ2 (upd H2 dx (exd dx [(f, y)])) ρ2 μ2 := Exm.new w2 hd2
        have wA := w2.new (o := exd dx [(f, y)]) hd2
        have hn2 : (upd H2 dx (exd dx [(f, y)])) (hp.objs.size + 1) = none := (upd_ne (fun z => hne z.symm)).trans hn
        have eB : Exm (upd H2 dx (exd dx [(f, y)])) ρ2 μ2 (upd (upd H2 dx (exd dx [(f, y)])) (hp.objs.size + 1) (exo (hp.objs.size + 1) C (some dx))) ρ2 μ2 := Exm.new wA hn2
        have wB := wA.new (o := exo (hp.objs.size + 1) C (some dx)) hn2
        refine p3 (.ref (hp.objs.size + 1)) _ ρ2 (eA.trans eB) wB ?_
        exact .exc (fs := [(f, y)]) (vs := [y]) (ds := [dy]) upd_same (w2.fresh hn) ((upd_ne hne).trans upd_same) (w2.fresh hd2) hm rfl (.cons ((ry.mono eA.x).mono eB.x) .nil) rfl
      have hus : us.length ≤ sizeLine := by
        have e1 := ru.length
        have e3 := congrArg List.length ey
        rw [List.length_append] at e3
        rw [sizeLine_eq, ← e1]
        simp only [List.length_cons, List.length_nil] at e3
        omega
      show wpAny _ _ (call (.ref C) ([] ++ us) (ks.zip ws)) _ _ _
      rw [List.nil_append]
      refine wpAny_call (PySem.XKw.call_kw FB ⟨(hT _).trans q1, (hT _).trans q2, (hT _).trans q3⟩ hC (PySem.W.looks_findIn I2.kIn hI) (fun self => PySem.W.bind_fn I2.kIn self tI) hus
        (codeAny_mono (FO.run _ X.stack _ _ ⟨Value.ref (hp.objs.size + 1) :: us, ks.zip ws⟩ _ _ _ (WE W σ) ((hr.mono hk2).make C us (ks.zip ws)) (I3.env0.make C us (ks.zip ws)) (kb.to _ (Value.ref (hp.objs.size + 1) :: us) ws I3.kIn (by rw [List.length_cons, ← ru.length, v1]) (rz.length.symm.trans v2)) rf sp) fun out s3 z => ?_))
      cases out with
      | error x => exact passAt tk σ pins _ _ x s3 I3 z
      | ok fl =>
        cases fl with
        | ret u =>
          obtain ⟨v, H4, I4, rv, ev, q⟩ := I3.after z
          subst ev
          exact ⟨rv, ⟨V.ref (hp.objs.size + 1), H4, I4, rfl, q⟩⟩
        | next => exact False.elim z
        | brk => exact False.elim z
        | cont => exact False.elim z
end
end CL

namespace CL
open PySem PySem.F
abbrev keTail : List Value := [.type "KeyError", .type "LookupError", .type "Exception", .type "BaseException", .type "object"]
theorem keStore : StoreFacts "KeyError" keTail "object.__setattr__" "object" :=
  { mro := by kernel_rfl
    slot := .of (owner := "object") (n := "__setattr__") (by
      rw [typeLookup_type, builtinLookup_eq_fast]
      kernel_rfl) (by decide +kernel) (by decide +kernel) (by decide +kernel)
      (by first | exact .inl (by decide +kernel) | exact .inr (by decide +kernel)) (by
      rw [isSubtype_type]
      kernel_rfl)
    entry := entry_object_sa
    kind := by decide +kernel
    split := by decide +kernel
    hasOwner := by decide +kernel
    args := fun a b c => by
      unfold argsOk
      kernel_rfl
    passes := fun _ => by kernel_rfl }
end CL

set_option maxHeartbeats 4000000
namespace CL
open PySem L2 PySem.Spec PyProof.Rows
section
variable {X : Cx} {W : WX} {o e : Expr} {p pos p2 : Pos} {k n : Nat} {me : ME} {f : Str} {cs : List Str}
theorem pe_xfld {te : TE} (he : PE X e te) (hb : attributeBase e f X.env (eval e X.env) = eval e X.env := by rfl) : PE X (.Attribute e f pos) (fun σ H Q => te σ H fun x H1 => ∃ (a C dx : Addr) (fs : List (Str × V)) (v : V) (bmB : List Value) (newId : String),
    x = .ref a ∧ H1 a = some (exo a C (some dx)) ∧ H1 dx = some (exd dx fs) ∧ XC X.K C bmB newId ∧ PySem.W.findIn X.K (.ref C) f = some none ∧ fs.lookup f = some v ∧ Q v H1) := by
  refine ⟨fun pins s σ H Q I h => ?_⟩
  refine attr_of hb (thn (he.run pins s σ H _ I h) fun u s1 hh => ?_)
  obtain ⟨x, H1, I1, rx, a, C, dx, fs, v, bmB, newId, ex, ea, ed, T, hno, l, q⟩ := hh
  subst ex
  obtain rfl : u = Value.ref a := rx
  obtain ⟨t1, ho⟩ := exo_at I1.hok ea
  obtain ⟨mA, hns, rel⟩ := exd_at I1.hok ed
  obtain ⟨od, hod, hl⟩ := lookIn_ns hns
  obtain ⟨u2, hu, ru⟩ := RelO.some_of (v := v) (o := mA f) (by rw [← l]; exact rel f)
  have J : PySem.W.InstAt s1.heap a { cls := .ref C, dict := some dx, data := .fields #[.ref t1, .none, .none, .none, .bool false, .none] } C (some od) := ⟨ho, rfl, rfl, hod⟩
  exact PySem.HandSPX.exc_get I1.kIn J T.ga T.gg T.sub (PySem.W.findObj_own T.hd hno rfl (by rw [hl, hu])) (handed_of ru) ⟨v, H1, I1.tok _, ru, q⟩
def dFldX (cs : List Str) (f : Str) : D → M D := fun d μ => match d with
  | .exc c fds => if cs.contains c = true then (match fds.lookup f with
    | some x => .ok x μ
    | none => .no) else .no
  | _ => .no
/-- own exception classes without an attribute f of their own -/
structure XcA (K : PySem.W.Frag) (mg : Str → Option Value) (c f : Str) : Prop where
  ex : ∃ (C : Addr) (bmB : List Value) (newId : String), mg c = some (.ref C) ∧ XC K C bmB newId ∧ PySem.W.findIn K (.ref C) f = some none
theorem se_fldX (hcs : ∀ c ∈ cs, XcA X.K X.mg c f) (ho : SE X W o me) (hb : attributeBase o f X.env (eval o X.env) = eval o X.env := by rfl) : SE X W (.Attribute o f pos) (mUn (dFldX cs f) me) := by
  refine PE.imp (pe_xfld ho hb) fun σ H Q ⟨ρ, μ, env, w, re, p⟩ => ?_
  refine ⟨ρ, μ, env, w, re, Post.imp (post_bind p) (fun v H1 ⟨d, ρ1, μ1, e1, w1, r1, p1⟩ => ?_) fun _ _ _ z => z⟩
  cases r1 with
  | @exc a C dx fs vs ds c fds h1 n1 h2 n2 g z rl q =>
    unfold dFldX at p1
    dsimp only at p1
    by_cases hc : cs.contains c = true
    · rw [if_pos hc] at p1
      subst z
      cases hl : fds.lookup f with
      | none => rw [hl] at p1; exact False.elim p1
      | some x =>
        rw [hl] at p1
        rw [q] at hl
        obtain ⟨v, hv, rv⟩ := (fld_rel rl).1 x hl
        obtain ⟨C', bmB, newId, hm, T, hno⟩ := (hcs c (by simpa using hc)).ex
        have ec : C' = C := by
          have := hm.symm.trans g
          injection this with this
          injection this
        subst ec
        exact ⟨a, _, dx, fs, v, bmB, newId, rfl, h1, h2, T, hno, hv, Post.ok w1 p1 rv⟩
    · rw [if_neg hc] at p1
      exact False.elim p1
  | _ => exact False.elim p1
def rIsiE (K : PySem.W.Frag) : List V → Hp → VK → Prop := fun xs H Q => ∃ (a C dx : Addr) (fs : List (Str × V)) (c : V) (u : Value) (b : Bool) (bmB : List Value) (newId : String), xs = [.ref a, c] ∧ ClsV c u ∧ H a = some (exo a C (some dx)) ∧ H dx = some (exd dx fs) ∧
  XC K C bmB newId ∧ PySem.W.kitOne K (.ref C) u = some b ∧ Q (.bl b) H
theorem call_isiE : CallR X (.builtin "isinstance") (rIsiE X.K) := by
  intro pins s σ H xs us Q I r h
  obtain ⟨a, C, dx, fs, c, u, b, bmB, newId, rfl, k, ea, ed, T, e, q⟩ := h
  obtain ⟨u1, u2, rfl, r1, r2⟩ := vals2 r
  have e2 := k.eq r2
  subst e2
  cases (show u1 = Value.ref a from r1)
  obtain ⟨t1, ho⟩ := exo_at I.hok ea
  obtain ⟨mA, hns, rel⟩ := exd_at I.hok ed
  obtain ⟨od, hod, hl⟩ := lookIn_ns hns
  have J : PySem.W.InstAt s.heap a { cls := .ref C, dict := some dx, data := .fields #[.ref t1, .none, .none, .none, .bool false, .none] } C (some od) := ⟨ho, rfl, rfl, hod⟩
  have hcl : (PySem.W.clsIn X.K C).isSome = true := by
    obtain ⟨cd, hc, _⟩ := PySem.W.any_some T.hd
    rw [hc]
    rfl
  exact PySem.W.kia_one (PySem.W.kitx_exc hcl T.ga T.gg T.sub T.ha T.hn T.ht T.hm) I.kIn J e (fun z => nomatch z) fun tk => ⟨.bl b, H, I.tok tk, rfl, q⟩
def dIsiX (cs : List Str) (tab : Str → Bool) : D → M D := fun d μ => match d with
  | .exc c _ => if cs.contains c = true then .ok (.bl (tab c)) μ else .no
  | _ => .no
theorem isiX_in {tab : Str → Bool} {c : V} {u : Value} (kc : ClsV c u) (hcs : ∀ c ∈ cs, ∃ (C : Addr) (bmB : List Value) (newId : String), X.mg c = some (.ref C) ∧ XC X.K C bmB newId ∧ PySem.W.kitOne X.K (.ref C) u = some (tab c))
    {σ : L2.St} {H : Hp} {Q : VK} (h : tM X.K X.mg W (mUn (dIsiX cs tab) me) σ H Q) : tCB (rIsiE X.K) (tCons (tM X.K X.mg W me) (tCons (tC c) tNil)) σ H Q := by
  obtain ⟨ρ, μ, env, w, re, p⟩ := h
  refine ⟨ρ, μ, env, w, re, Post.imp (post_bind p) (fun v H1 ⟨d, ρ1, μ1, e1, w1, r1, p1⟩ => ?_) fun _ _ _ z => z⟩
  cases r1 with
  | @exc a C dx fs vs ds c0 fds h1 n1 h2 n2 g z rl q =>
    unfold dIsiX at p1
    dsimp only at p1
    by_cases hc : cs.contains c0 = true
    · rw [if_pos hc] at p1
      obtain ⟨C', bmB, newId, hm, T, hk⟩ := hcs c0 (by simpa using hc)
      have ec : C' = C := by
        have := hm.symm.trans g
        injection this with this
        injection this
      subst ec
      exact ⟨a, _, dx, fs, c, u, tab c0, bmB, newId, rfl, kc, h1, h2, T, hk, Post.ok w1 p1 (.bl _)⟩
    · rw [if_neg hc] at p1
      exact False.elim p1
  | _ => exact False.elim p1
/-- isinstance(e, C), C an own class -/
theorem se_isiXO {T : Str} {C0 : Addr} {tab : Str → Bool} (he : SE X W e me) (hm : X.mg "isinstance" = none) (hm2 : X.mg T = some (.ref C0)) (hcs : ∀ c ∈ cs, ∃ (C : Addr) (bmB : List Value) (newId : String), X.mg c = some (.ref C) ∧ XC X.K C bmB newId ∧ PySem.W.kitOne X.K (.ref C) (.ref C0) = some (tab c))
    (hg : Gl X "isinstance" := by rfl) (hg2 : Gl X T := by rfl) (hd : (T == ("__debug__" : Str)) = false := by decide) (hs : starEach [e, .Name T p2] X.env = (false, eval e X.env) :: starEach [.Name T p2] X.env := by rfl)
    (hpl : (backTo pos (starEach [.Name T p2] X.env)).any (·.1) = false := by rfl) : SE X W (.Call (.Name "isinstance" p) [e, .Name T p2] [] pos) (mUn (dIsiX cs tab) me) :=
  PE.imp (pe_callB call_isiE hg hm boot_isinstance (pa_cons he (pa_cons (pe_glob (v := .ref C0) hg2 hm2 rfl hd) pa_nil) hs) (by decide) (by decide) hs hpl) fun σ H Q h => isiX_in (.own C0) hcs h
/-- isinstance(e, T), T a built-in class -/
theorem se_isiXB {T : Str} {t : String} {tab : Str → Bool} (he : SE X W e me) (hm : X.mg "isinstance" = none) (hm2 : X.mg T = none) (hv2 : bootBuiltins T = some (.type t)) (hcs : ∀ c ∈ cs, ∃ (C : Addr) (bmB : List Value) (newId : String), X.mg c = some (.ref C) ∧ XC X.K C bmB newId ∧ PySem.W.kitOne X.K (.ref C) (.type t) = some (tab c))
    (hg : Gl X "isinstance" := by rfl) (hg2 : Gl X T := by rfl) (hn : T ≠ "__name__" := by decide) (hd : (T == ("__debug__" : Str)) = false := by decide) (hs : starEach [e, .Name T p2] X.env = (false, eval e X.env) :: starEach [.Name T p2] X.env := by rfl)
    (hpl : (backTo pos (starEach [.Name T p2] X.env)).any (·.1) = false := by rfl) : SE X W (.Call (.Name "isinstance" p) [e, .Name T p2] [] pos) (mUn (dIsiX cs tab) me) :=
  PE.imp (pe_callB call_isiE hg hm boot_isinstance (pa_cons he (pa_cons (pe_bltn (v := .ty t) hg2 hm2 hv2 rfl hn hd) pa_nil) hs) (by decide) (by decide) hs hpl) fun σ H Q h => isiX_in (.ty t) hcs h
end
mutual
inductive Dq (K : PySem.W.Frag) (H : Hp) : V → PyData → Prop
  | non : Dq K H .non .none
  | bl (b : Bool) : Dq K H (.bl b) (.bool b)
  | int (i : Int) : Dq K H (.int i) (.int i)
  | str (x : Str) : Dq K H (.str x) (.str x)
  | lst {a : Addr} {xs : List V} {ds : List PyData} : SqL K H a xs → DqAll K H xs ds → Dq K H (.ref a) (.list ds)
  | tup {a : Addr} {xs : List V} {ds : List PyData} : SqT K H a xs → DqAll K H xs ds → Dq K H (.ref a) (.tuple ds)
  | d0 {a : Addr} : Rd H a (.dK []) ∨ Rd H a (.dT []) → Dq K H (.ref a) (.dict [])
inductive DqAll (K : PySem.W.Frag) (H : Hp) : List V → List PyData → Prop
  | nil : DqAll K H [] []
  | cons {v : V} {vs : List V} {d : PyData} {ds : List PyData} : Dq K H v d → DqAll K H vs ds → DqAll K H (v :: vs) (d :: ds)
end
/-- the objects that a reading names: lists, and dicts that are not sys.modules -/
def Apt (h : Heap) (as : List Addr) : Prop := ∀ a ∈ as, (∃ o, h.get? a = some o ∧ o.cls = .type "list") ∨ a ≠ sysModules
section
variable {X : Cx} {pins : List (Addr × Obj)} {σ : L2.St} {H : Hp} {s : Shared}
mutual
theorem Dq.reads (I : Inv X pins σ H s) : ∀ (d : PyData) (v : V) (u : Value), Dq X.K H v d → RelV v u → ∃ as, Reads s.heap u d as ∧ Apt s.heap as
  | .none, _, _, h, r => by
    cases h
    cases r
    exact ⟨_, Reads.none, fun a ha => absurd ha (by simp)⟩
  | .bool b, _, _, h, r => by
    cases h
    cases r
    exact ⟨_, Reads.bool b, fun a ha => absurd ha (by simp)⟩
  | .int i, _, _, h, r => by
    cases h
    obtain ⟨t, rfl⟩ := r
    exact ⟨_, Reads.int i t, fun a ha => absurd ha (by simp)⟩
  | .str x, _, _, h, r => by
    cases h
    obtain ⟨t, rfl⟩ := r
    exact ⟨_, Reads.str x t, fun a ha => absurd ha (by simp)⟩
  | .list ds, _, _, h, r => by
    cases h with
    | lst hs ha =>
      cases r
      obtain ⟨its, rv, ⟨o, n, ho, hc, _, hd⟩, _⟩ := I.list hs
      obtain ⟨as, hr, hap⟩ := DqAll.reads I ds _ its ha rv
      refine ⟨_, Reads.list ho hc hd hr, fun b hb => ?_⟩
      rcases List.mem_cons.mp hb with e | hb
      · subst e
        exact .inl ⟨o, ho, hc⟩
      · exact hap b hb
  | .tuple ds, _, _, h, r => by
    cases h with
    | tup hs ha =>
      cases r
      obtain ⟨its, rv, ⟨o, ho, hc, n, hd⟩, _⟩ := I.tuple hs
      obtain ⟨as, hr, hap⟩ := DqAll.reads I ds _ its ha rv
      exact ⟨_, Reads.tuple ho hc hd hr, hap⟩
  | .dict kvs, _, _, h, r => by
    cases h with
    | d0 hd =>
      rename_i a
      cases r
      rcases hd with hd | hd
      · obtain ⟨hz, hne, vs, kv, dd⟩ := dk_rd I.hok hd
        cases kv
        obtain ⟨o, es, ep, ho, hx, hdat, _, hp, _⟩ := dd
        have he : es.toList = [] := by
          generalize es.toList = l at hp
          cases hp
          rfl
        refine ⟨_, Reads.dict (kvs := []) (as := []) (bs := []) ho hx.1 hdat (by rw [he]; exact .nil) (by rw [he]; exact .nil), fun b hb => ?_⟩
        have e : b = a := by simpa using hb
        subst e
        exact .inr (by simpa using hne)
      · obtain ⟨hz, hne, xs, kt, dd⟩ := dt_rd I.hok hd
        cases kt
        obtain ⟨o, es, ep, ho, hx, hdat, he, _⟩ := dd
        have he : es.toList = [] := he
        refine ⟨_, Reads.dict (kvs := []) (as := []) (bs := []) ho hx.1 hdat (by rw [he]; exact .nil) (by rw [he]; exact .nil), fun b hb => ?_⟩
        have e : b = a := by simpa using hb
        subst e
        exact .inr (by simpa using hne)
theorem DqAll.reads (I : Inv X pins σ H s) : ∀ (ds : List PyData) (vs : List V) (us : List Value), DqAll X.K H vs ds → Vals vs us → ∃ as, ReadsAll s.heap us ds as ∧ Apt s.heap as
  | [], _, _, h, r => by
    cases h
    cases r
    exact ⟨_, ReadsAll.nil, fun a ha => absurd ha (by simp)⟩
  | d :: ds, _, _, h, r => by
    cases h with
    | cons h1 h2 =>
      cases r with
      | cons r1 r2 =>
        obtain ⟨as, q1, a1⟩ := Dq.reads I d _ _ h1 r1
        obtain ⟨bs, q2, a2⟩ := DqAll.reads I ds _ _ h2 r2
        exact ⟨_, ReadsAll.cons q1 q2, fun b hb => (List.mem_append.mp hb).elim (a1 b) (a2 b)⟩
end
end
def rRepr (K : PySem.W.Frag) : List V → Hp → VK → Prop := fun xs H Q => ∃ (a : Addr) (p : PyData), xs = [V.ref a] ∧ Dq K H (.ref a) p ∧ p.showable = true ∧ p.depth ≤ 40 ∧ p.shown.length ≤ 1000000 ∧ Q (.str p.shown) H
def sysOk (K : PySem.W.Frag) : Bool := match K.lookup sysModules with
  | some o => o.cls == .type "dict"
  | none => false
theorem call_reprX {X : Cx} {k : Nat} (hr : RmG k X.A) (hsys : sysOk X.K = true) : CallR X (.builtin "repr") (rRepr X.K) := by
  intro pins s σ H xs us Q I r h
  obtain ⟨a, p, rfl, dq, hs, hd, hz, q⟩ := h
  obtain ⟨u, rfl, ru⟩ := vals1 r
  cases (show u = Value.ref a from ru)
  obtain ⟨as, rd, ap⟩ := Dq.reads I p _ _ dq rfl
  have no : sysModules ∉ as := fun z => by
    unfold sysOk at hsys
    cases e : X.K.lookup sysModules with
    | none => rw [e] at hsys; exact nomatch hsys
    | some o =>
      rw [e] at hsys
      have hc : o.cls = .type "dict" := eq_of_beq hsys
      rcases ap _ z with ⟨o2, h1, h2⟩ | h1
      · have e2 := I.kIn _ _ e
        rw [h1] at e2
        have e3 := Option.some.inj e2
        rw [e3, hc] at h2
        exact absurd h2 (by decide +kernel)
      · exact h1 rfl
  have hsz : p.shown.length ≤ sizeLine := Nat.le_trans hz (by rw [sizeLine_eq]; decide)
  refine PySem.repr_of_reads' rd hs (fun _ => no) hr.gd (by have := hr.un; omega) (fun b o e => e) (fun h1 u1 tk hk => ?_) hsz
  exact ⟨.str p.shown, H, I.kept hk, ⟨_, rfl⟩, q⟩
/-- as the library's data, for repr -/
def pq (μ : Mem) : Nat → D → Option PyData
  | 0, _ => none
  | n + 1, d => match d with
    | .non => some .none
    | .bl b => some (.bool b)
    | .int i => some (.int i)
    | .str x => some (.str x)
    | .lst ds => (ds.mapM (pq μ n)).map .list
    | .tup ds => (ds.mapM (pq μ n)).map .tuple
    | .dct _ [] => some (.dict [])
    | .cel i => match μ[i]? with
      | some (some (.lst ds)) => (ds.mapM (pq μ n)).map .list
      | _ => none
    | _ => none
section
variable {K : PySem.W.Frag} {mg : Str → Option Value} {H : Hp} {ρ : Lc} {μ : Mem} {E : XK}
theorem mapMq_ok {f : D → Option PyData} (hf : ∀ v d p, Rm K mg H ρ μ v d → f d = some p → Dq K H v p) : ∀ {vs : List V} {ds : List D} {ps : List PyData}, RLm K mg H ρ μ vs ds → ds.mapM f = some ps → DqAll K H vs ps
  | _, _, ps, .nil, h => by
    have e : ps = [] := by simpa using h.symm
    subst e
    exact .nil
  | _, _, ps, .cons (d := d) (ds := ds) r t, h => by
    rw [List.mapM_cons] at h
    cases h1 : f d with
    | none => rw [h1] at h; exact nomatch h
    | some q =>
      rw [h1] at h
      cases h2 : ds.mapM f with
      | none => rw [h2] at h; exact nomatch h
      | some qs =>
        rw [h2] at h
        have e : ps = q :: qs := (Option.some.inj h).symm
        subst e
        exact .cons (hf _ _ _ r h1) (mapMq_ok hf t h2)
theorem omap {α β : Type} {o : Option α} {f : α → β} {b : β} (h : o.map f = some b) : ∃ a, o = some a ∧ b = f a := by
  cases o with
  | none => exact nomatch h
  | some a => exact ⟨a, rfl, (Option.some.inj h).symm⟩
theorem pq_ok (w : Wd K mg H ρ μ) : ∀ (n : Nat) (v : V) (d : D) (p : PyData), Rm K mg H ρ μ v d → pq μ n d = some p → Dq K H v p
  | 0, _, _, _, _, h => nomatch h
  | n + 1, v, d, p, r, h => by
    have ih := pq_ok w n
    cases r with
    | non => have e := Option.some.inj h; subst e; exact .non
    | bl b => have e := Option.some.inj h; subst e; exact .bl b
    | int i => have e := Option.some.inj h; subst e; exact .int i
    | str x => have e := Option.some.inj h; subst e; exact .str x
    | lst hL rl =>
      obtain ⟨ps, h1, e⟩ := omap (show (List.mapM (pq μ n) _).map PyData.list = some p from h)
      subst e
      exact .lst hL.sq (mapMq_ok ih rl h1)
    | tup hT rl =>
      obtain ⟨ps, h1, e⟩ := omap (show (List.mapM (pq μ n) _).map PyData.tuple = some p from h)
      subst e
      exact .tup hT.sq (mapMq_ok ih rl h1)
    | dK h1 n1 z rl q =>
      rename_i a kvs vs ds kds
      cases kvs with
      | nil =>
        have e1 : kds = [] := q
        subst e1
        have e := Option.some.inj h
        subst e
        exact .d0 (.inl h1)
      | cons x kvs =>
        subst z
        cases rl with
        | cons _ _ =>
          subst q
          exact nomatch h
    | dT h1 n1 z rl q =>
      rename_i a kvs vs ds kds
      cases kvs with
      | nil =>
        have e1 : kds = [] := q
        subst e1
        have e := Option.some.inj h
        subst e
        exact .d0 (.inr h1)
      | cons x kvs =>
        subst z
        cases rl with
        | cons _ _ =>
          subst q
          exact nomatch h
    | @cel a i hc =>
      have h0 : (match μ[i]? with
        | some (some (.lst ds)) => (ds.mapM (pq μ n)).map PyData.list
        | _ => none) = some p := h
      cases hm : μ[i]? with
      | none => rw [hm] at h0; exact nomatch h0
      | some ob =>
        rw [hm] at h0
        cases ob with
        | none => exact nomatch h0
        | some d0 =>
          cases d0 with
          | lst ds =>
            obtain ⟨ps, h1, e⟩ := omap h0
            subst e
            obtain ⟨vs, hH, rl⟩ := w.cell i _ a hm hc
            exact .lst (.inl (.inl hH)) (mapMq_ok ih rl h1)
          | _ => exact nomatch h0
    | _ => exact nomatch h
/-- repr(x), x a list, a tuple or an empty dict -/
def dRepr : List D → M D := fun ds μ => match ds with
  | [x] => (match x with
    | .lst _ | .tup _ | .dct _ _ | .cel _ => (match pq μ 40 x with
      | some p => if p.showable = true ∧ p.depth ≤ 40 ∧ p.shown.length ≤ 1000000 then .ok (.str p.shown) μ else .no
      | none => .no)
    | _ => .no)
  | _ => .no
theorem m_repr : CallM K mg (rRepr K) dRepr := by
  intro H ρ μ vs ds Q E w rv p
  cases rv with
  | nil => exact False.elim p
  | cons r t =>
    cases t with
    | cons _ _ => exact False.elim p
    | nil =>
      rename_i v d
      have fin : ∀ a : Addr, v = .ref a → (match pq μ 40 d with
          | some p => if p.showable = true ∧ p.depth ≤ 40 ∧ p.shown.length ≤ 1000000 then Rs.ok (.str p.shown) μ else .no
          | none => .no) = dRepr [d] μ → rRepr K [v] H Q := by
        intro a ea e
        rw [← e] at p
        cases hp : pq μ 40 d with
        | none => rw [hp] at p; exact False.elim p
        | some pp =>
          rw [hp] at p
          dsimp only at p
          by_cases hc : pp.showable = true ∧ pp.depth ≤ 40 ∧ pp.shown.length ≤ 1000000
          · rw [if_pos hc] at p
            have dq := pq_ok w 40 v d pp r hp
            subst ea
            exact ⟨a, pp, rfl, dq, hc.1, hc.2.1, hc.2.2, Post.ok w p (.str _)⟩
          · rw [if_neg hc] at p
            exact False.elim p
      cases r with
      | lst _ _ => exact fin _ rfl rfl
      | tup _ _ => exact fin _ rfl rfl
      | dK _ _ _ _ _ => exact fin _ rfl rfl
      | dT _ _ _ _ _ => exact fin _ rfl rfl
      | cel _ => exact fin _ rfl rfl
      | _ => exact False.elim p
end
end CL

set_option maxHeartbeats 4000000
namespace CL
open PySem L2 PySem.Spec PyProof.Rows
abbrev AlX : Type := Bool × He.AlD
def addrX (n : Nat) (g : Addr → Option Obj) : List Addr := sysModules :: He.asD g n
/-- what no K may hold, so that the script stands apart; where sys.modules stands -/
def apartB (K : PySem.W.Frag) : Bool := K.all fun p => !(p.2.cls == .type "list")
def obsX (fa : List He.Fa) (fn : List He.DefD) (ow : PySem.W.Frag → Bool) (K : PySem.W.Frag) : AlX := (apartB K && ow K, He.obsD fa fn K)
def obsXG (n : Nat) (fa : List He.Fa) (fn : List He.DefD) (ow : PySem.W.Frag → Bool) (g : Addr → Option Obj) : AlX := obsX fa fn ow (He.frG g (addrX n g))
def hookX (n : Nat) (fa : List He.Fa) (fn : List He.DefD) (ow : PySem.W.Frag → Bool) : PySem.W.Hook where
  α := AlX
  obs := fun s => obsXG n fa fn ow s.heap.get?
  val := fun _ => (true, He.valD fn)
  says := fun _ h => ∃ K : PySem.W.Frag, K.In h ∧ apartB K = true ∧ ow K = true ∧ He.SaysD fa fn K
  of := fun w s e => by
    have e1 : (apartB _ && ow _) = true := congrArg Prod.fst e
    have e2 := Bool.and_eq_true_iff.mp e1
    exact ⟨_, He.frG_in, e2.1, e2.2, congrArg Prod.snd e⟩
  keeps := fun _ _ _ h k => by
    obtain ⟨K, hK, a, b, c⟩ := h
    exact ⟨K, PySem.W.Frag.In.keeps hK k, a, b, c⟩
theorem obsXG_eq {n : Nat} {fa : List He.Fa} {fn : List He.DefD} {ow : PySem.W.Frag → Bool} {g : Addr → Option Obj} {s : Shared} (h : ∀ a, g a = s.heap.get? a) : obsXG n fa fn ow g = (hookX n fa fn ow).obs s := by
  have e : g = s.heap.get? := funext h
  rw [e] <;> rfl
theorem lookup_mem {K : PySem.W.Frag} {a : Addr} {o : Obj} (h : K.lookup a = some o) : (a, o) ∈ K := by
  induction K with
  | nil => exact nomatch h
  | cons p K ih =>
    obtain ⟨b, u⟩ := p
    by_cases hb : (a == b) = true
    · simp only [List.lookup, hb] at h
      have e := Option.some.inj h
      have e2 := eq_of_beq hb
      subst e e2
      exact List.mem_cons_self
    · have hb' : (a == b) = false := by simpa using hb
      simp only [List.lookup, hb'] at h
      exact List.mem_cons_of_mem _ (ih h)
theorem apart_ok {K : PySem.W.Frag} (h : apartB K = true) {a : Addr} {o : Obj} (e : K.lookup a = some o) : o.cls ≠ .type "list" := fun z => by
  have q := List.all_eq_true.mp h _ (lookup_mem e)
  dsimp only at q
  rw [z] at q
  exact absurd q (by decide +kernel)
def scriptH (a : Addr) (vs : List Value) (ns : List Int) : Hp := fun b => if b = a then some (.frz { cls := .type "list", data := .seq vs.toArray } (.lst (ns.map V.int))) else none
theorem law_go {P : Program} {w : World} {K : PySem.W.Frag} {mg mb : Str → Option Value} {k : Nat} {fa a : Addr} {fd : FuncData} {x : Str} {sp : Sp} {s1 : Shared} {vs : List Value} {ns : List Int}
    (KX : K.In s1.heap) (ap : apartB K = true) (hns : s1.heap.Ns mainGlobals mg) (hb : s1.heap.Ns builtinsNs mb) (hbb : ∀ x : Str, x ≠ "__name__" → mb x = bootBuiltins x) (hlim : s1.heap.NoLimit) (hg : s1.gens = #[])
    (ha : s1.heap.get? a = some { cls := .type "list", data := .seq vs.toArray }) (hi : IntsAre vs ns) (hl : ns.length ≤ sizeLine) (hr : Room k callerA)
    (F : ∀ base : Heap, K.In base → base.Ns mainGlobals mg → FnG P w K mg base (CXn P w) k fa fd [x] sp) (hbind : ∀ (s : Shared) (u : Value), BindsTo s fd ⟨[u], []⟩ [(x, u)])
    (hsp : sp [.ref a] (scriptH a vs ns) (fun v _ => v = .bl true) fun _ _ _ => False) :
    codeAny (model P w) callerA (.call (.ref fa) ⟨[.ref a], []⟩) (fun r s2 => r = .ok (.ret (.bool true)) ∧ OldK s1.heap s2.heap ∧ s2.os = s1.os ∧ AllBare s2.gens) s1 := by
  have rv := vals_ints hi
  have hk : K.lookup a = none := by
    cases e : K.lookup a with
    | none => rfl
    | some o =>
      have e2 := KX a o e
      rw [ha] at e2
      have e3 := Option.some.inj e2
      exact absurd (by rw [← e3]) (apart_ok ap e)
  have only : ∀ {b : Addr} {u : HO}, scriptH a vs ns b = some u → b = a ∧ u = .frz { cls := .type "list", data := .seq vs.toArray } (.lst (ns.map V.int)) := by
    intro b u z
    unfold scriptH at z
    by_cases hba : b = a
    · rw [if_pos hba] at z
      exact ⟨hba, (Option.some.inj z).symm⟩
    · rw [if_neg hba] at z
      exact nomatch z
  have ok : HOk P w (scriptH a vs ns) s1.heap := by
    intro b u z
    obtain ⟨rfl, rfl⟩ := only z
    exact ⟨ha, by rw [List.length_map]; exact hl, vs, _, rv, ha⟩
  have base_of : ∀ {b : Addr} {o : Obj}, s1.heap.get? b = some o → scriptH a vs ns b = none → (hidT s1.heap (scriptH a vs ns)).get? b = some o := fun e n => hidT_get e n
  have nodict : ∀ {b : Addr} {o : Obj} {es : Array DictEntry} {ep : Nat}, s1.heap.get? b = some o → o.data = .dict es ep → scriptH a vs ns b = none := by
    intro b o es ep e d
    cases q : scriptH a vs ns b with
    | none => rfl
    | some u =>
      obtain ⟨rfl, _⟩ := only q
      rw [ha] at e
      have e3 := Option.some.inj e
      subst e3
      exact nomatch d
  have nsK : ∀ {b : Addr} {m : Str → Option Value}, s1.heap.Ns b m → (hidT s1.heap (scriptH a vs ns)).Ns b m := by
    rintro b m ⟨o, es, ep, e, d, r⟩
    exact ⟨o, es, ep, base_of e (nodict e d), d, r⟩
  have hKb : K.In (hidT s1.heap (scriptH a vs ns)) := by
    intro b o e
    refine base_of (KX b o e) ?_
    cases q : scriptH a vs ns b with
    | none => rfl
    | some u =>
      obtain ⟨rfl, _⟩ := only q
      rw [hk] at e
      exact nomatch e
  have hM : Mod K mg (hidT s1.heap (scriptH a vs ns)) := by
    obtain ⟨mc, h1, h2⟩ := hlim
    exact ⟨hKb, nsK hns, ⟨mb, nsK hb, hbb⟩, ⟨mc, nsK h1, h2⟩⟩
  have e0 : Env0 P w K mg (hidT s1.heap (scriptH a vs ns)) callerA [] s1 (scriptH a vs ns) :=
    ⟨rfl, hM, fun b o e => of_hidT e, Nat.le_of_eq (hidT_size _ _), trivial, fun b hb => absurd (show b ∈ ([] : List Addr) from hb) (by simp), ok, .of_eq hg⟩
  refine codeAny_mono ((F _ hKb (nsK hns)).run callerA [] s1 _ ⟨[.ref a], []⟩ [.ref a] [.ref a] _ _ ⟨hr, rfl⟩ e0 (hbind s1 (.ref a)) (.cons rfl .nil) hsp) fun r s2 z => ?_
  cases r with
  | error e =>
    obtain ⟨_, _, _, _, _, _, _, _, _, _, _, _, q⟩ := z
    exact False.elim q
  | ok fl =>
    cases fl with
    | next => exact False.elim z
    | brk => exact False.elim z
    | cont => exact False.elim z
    | ret u =>
      obtain ⟨v, H2, os2, bare2, un, ok2, ru, q⟩ := z
      have q2 : v = .bl true := q
      subst q2
      obtain rfl : u = Value.bool true := ru
      refine ⟨rfl, OldK.of_keep fun b o e => ?_, os2, bare2⟩
      cases q : scriptH a vs ns b with
      | none => exact un.keep b o e q (fun y => absurd (show b ∈ ([] : List Addr) from y) (by simp)) (by simp)
      | some u =>
        obtain ⟨rfl, rfl⟩ := only q
        have z2 := un.frzs b _ _ q
        obtain ⟨e1, _⟩ := ok b _ q
        obtain ⟨e2, _⟩ := ok2 b _ z2
        rw [e] at e1
        have e3 := Option.some.inj e1
        subst e3
        exact e2
/-- the script as data -/
def scriptD (ns : List Int) : D := .lst (ns.map D.int)
theorem script_sp {K : PySem.W.Frag} {mg : Str → Option Value} {a : Addr} {vs : List Value} {ns : List Int} {g : List D → M D} (h : ∃ μ, g [scriptD ns] [] = .ok (.bl true) μ) : spM K mg 1 g [.ref a] (scriptH a vs ns) (fun v _ => v = .bl true) fun _ _ _ => False := by
  obtain ⟨μ, h⟩ := h
  have wd : Wd K mg (scriptH a vs ns) ⟨[], []⟩ [] := ⟨rfl, .nil, fun b hb => absurd hb (by simp), fun b hb => absurd hb (by simp), fun i d b h1 _ => nomatch h1⟩
  have nl : ¬ Live ⟨[], []⟩ [] a := fun l => by
    rcases l with l | ⟨i, d, _, h2⟩
    · exact absurd l (by simp)
    · exact nomatch h2
  refine ⟨rfl, ⟨[], []⟩, [], [scriptD ns], wd, .cons (.lst (vs := ns.map V.int) ⟨.inr ⟨_, if_pos rfl⟩, nl⟩ (RL.ofInts ns)) .nil, ?_⟩
  rw [h]
  intro v H' ρ' _ _ r
  cases r
  rfl
/-- the whole row's walk -/
theorem walk_cl {l : PySem.W.OpenLaw} {n k : Nat} {q : Program} {loose : List Str} {XP : (Str → Option Value) → Heap → Prop} {fa : List He.Fa} {fn : List He.DefD} {ow : PySem.W.Frag → Bool} {m : Nat} {d : DefRec} {x : Str} {g : List D → M D}
    (hn : l.most = some n) (hn2 : n ≤ sizeLine) (hdf : d.params.defaults = []) (hr : Room k callerA)
    (F : ∀ (w : World) (K : PySem.W.Frag) (mg : Str → Option Value) (f0 : Addr) (h : Heap), K.In h → h.Ns mainGlobals mg → mg d.name = some (.ref f0) → ow K = true → He.SaysD fa fn K →
      ∃ fd : FuncData, (∀ (s : Shared) (u : Value), BindsTo s fd ⟨[u], []⟩ [(x, u)]) ∧ ∀ base : Heap, K.In base → base.Ns mainGlobals mg → FnG l.prog w K mg base (CXn l.prog w) k f0 fd [x] (spM K mg 1 g))
    (plain : ∀ ns : List Int, ns.length ≤ n → (∀ z ∈ ns, Builtin.Int.intBits z ≤ 1048576) → ∃ μ, g [scriptD ns] [] = .ok (.bl true) μ) :
    PySem.W.WalkO q loose XP (hookX m fa fn ow).says l.row.toRowW d [] (fun f vs => PySem.call f vs) := by
  refine Att.attach_callB hn hdf fun w s0 s1 mg mb f o pm cd doc a vs ns G Y ho hd hcd hmg hobj hints hlen hbits hg => ?_
  obtain ⟨K, KX, ap, hw, hs⟩ := Y
  obtain ⟨fd, hb, hF⟩ := F w K mg f _ KX G.T.g hmg hw hs
  exact law_go KX ap G.T.g G.T.b G.T.builtins G.T.nolimit hg hobj hints (Nat.le_trans hlen hn2) hr hF hb (script_sp (plain ns hlen hbits))
end CL

namespace CL
open PySem L2 PySem.Spec PyProof.Rows
/-- one class: its name, its field, its base's mro, whose __new__ it has -/
structure XR where
  c : Str
  f : Str
  tail : List Value
  newId : String
def xrB (K : PySem.W.Frag) (x : XR) : Bool :=
  (He.Fa.glo x.c).ok K && (xcB K (He.ga K x.c) x.tail x.newId && (decide (PySem.W.findIn K (.ref (He.ga K x.c)) "__init__" = some (some (.ref (He.ma K (He.ga K x.c) "__init__")))) &&
    (decide (PySem.W.typeIn K (.ref (He.ma K (He.ga K x.c) "__init__")) = some (.type "function")) && decide (PySem.W.findIn K (.ref (He.ga K x.c)) x.f = some none))))
def owX (xs : List XR) (bs : List (String × List Str)) (K : PySem.W.Frag) : Bool :=
  sysOk K && (xs.all (xrB K) && ((xs.all fun x => xs.all fun y => decide (PySem.W.kitOne K (.ref (He.ga K x.c)) (.ref (He.ga K y.c)) = some (decide (x.c = y.c)))) &&
    xs.all fun x => bs.all fun b => decide (PySem.W.kitOne K (.ref (He.ga K x.c)) (.type b.1) = some (b.2.contains x.c))))
section
variable {K : PySem.W.Frag} {mg : Str → Option Value} {xs : List XR} {bs : List (String × List Str)} {x y : XR}
theorem owX_sys (h : owX xs bs K = true) : sysOk K = true := (Bool.and_eq_true_iff.mp h).1
theorem owX_all (h : owX xs bs K = true) (hx : x ∈ xs) : xrB K x = true := List.all_eq_true.mp (Bool.and_eq_true_iff.mp (Bool.and_eq_true_iff.mp h).2).1 x hx
theorem owX_isi (h : owX xs bs K = true) (hx : x ∈ xs) (hy : y ∈ xs) : PySem.W.kitOne K (.ref (He.ga K x.c)) (.ref (He.ga K y.c)) = some (decide (x.c = y.c)) :=
  of_decide_eq_true (List.all_eq_true.mp (List.all_eq_true.mp (Bool.and_eq_true_iff.mp (Bool.and_eq_true_iff.mp (Bool.and_eq_true_iff.mp h).2).2).1 x hx) y hy)
theorem owX_bse (h : owX xs bs K = true) (hx : x ∈ xs) {b : String × List Str} (hb : b ∈ bs) : PySem.W.kitOne K (.ref (He.ga K x.c)) (.type b.1) = some (b.2.contains x.c) :=
  of_decide_eq_true (List.all_eq_true.mp (List.all_eq_true.mp (Bool.and_eq_true_iff.mp (Bool.and_eq_true_iff.mp (Bool.and_eq_true_iff.mp h).2).2).2 x hx) b hb)
structure XrF (K : PySem.W.Frag) (x : XR) : Prop where
  xc : XC K (He.ga K x.c) x.tail x.newId
  init : PySem.W.findIn K (.ref (He.ga K x.c)) "__init__" = some (some (.ref (He.ma K (He.ga K x.c) "__init__")))
  ty : PySem.W.typeIn K (.ref (He.ma K (He.ga K x.c) "__init__")) = some (.type "function")
  no : PySem.W.findIn K (.ref (He.ga K x.c)) x.f = some none
theorem xr_ok (h : xrB K x = true) : XrF K x := by
  unfold xrB at h
  simp only [Bool.and_eq_true, decide_eq_true_eq] at h
  obtain ⟨_, b, c, d, e⟩ := h
  exact ⟨xcB_ok b, c, d, e⟩
theorem xr_glo {hp : Heap} (X : K.In hp) (G : hp.Ns mainGlobals mg) (h : xrB K x = true) : mg x.c = some (.ref (He.ga K x.c)) := He.glo_ok X G (Bool.and_eq_true_iff.mp h).1
/-- what stands under the names -/
structure XFs (K : PySem.W.Frag) (mg : Str → Option Value) (xs : List XR) (bs : List (String × List Str)) : Prop where
  ow : owX xs bs K = true
  xg : ∀ x ∈ xs, mg x.c = some (.ref (He.ga K x.c))
theorem xfs_of {hp : Heap} (X : K.In hp) (G : hp.Ns mainGlobals mg) (h : owX xs bs K = true) : XFs K mg xs bs := ⟨h, fun _ hx => xr_glo X G (owX_all h hx)⟩
def clsF (xs : List XR) (f : Str) : List Str := (xs.filter fun x => decide (x.f = f)).map (·.c)
def clsA (xs : List XR) : List Str := xs.map (·.c)
theorem xa_of (Φ : XFs K mg xs bs) (f : Str) : ∀ c ∈ clsF xs f, XcA K mg c f := by
  intro c hc
  obtain ⟨x, hx, e⟩ := List.mem_map.mp hc
  obtain ⟨h1, h2⟩ := List.mem_filter.mp hx
  have h3 := of_decide_eq_true h2
  subst e h3
  have F := xr_ok (owX_all Φ.ow h1)
  exact ⟨_, _, _, Φ.xg x h1, F.xc, F.no⟩
theorem xi_of (Φ : XFs K mg xs bs) {y : XR} (hy : y ∈ xs) : ∀ c ∈ clsA xs, ∃ (C : Addr) (bmB : List Value) (newId : String), mg c = some (.ref C) ∧ XC K C bmB newId ∧ PySem.W.kitOne K (.ref C) (.ref (He.ga K y.c)) = some (decide (c = y.c)) := by
  intro c hc
  obtain ⟨x, hx, e⟩ := List.mem_map.mp hc
  subst e
  exact ⟨_, _, _, Φ.xg x hx, (xr_ok (owX_all Φ.ow hx)).xc, owX_isi Φ.ow hx hy⟩
theorem xb_of (Φ : XFs K mg xs bs) {b : String × List Str} (hb : b ∈ bs) : ∀ c ∈ clsA xs, ∃ (C : Addr) (bmB : List Value) (newId : String), mg c = some (.ref C) ∧ XC K C bmB newId ∧ PySem.W.kitOne K (.ref C) (.type b.1) = some (b.2.contains c) := by
  intro c hc
  obtain ⟨x, hx, e⟩ := List.mem_map.mp hc
  subst e
  exact ⟨_, _, _, Φ.xg x hx, (xr_ok (owX_all Φ.ow hx)).xc, owX_bse Φ.ow hx hb⟩
end
/-- the bases -/
structure Bse (tail : List Value) (newId : String) : Prop where
  ex : ∃ (B B2 initId : String) (bm1 : List Value), ExcBaseFacts B newId initId bm1 ∧ (tail.contains (.type B) = true ∧ tail.contains (.type "AttributeError") = false ∧ tail.contains (.type "NameError") = false) ∧ StoreFacts B2 tail "object.__setattr__" "object"
abbrev tVE : List Value := [.type "ValueError", .type "Exception", .type "BaseException", .type "object"]
abbrev tLE : List Value := [.type "LookupError", .type "Exception", .type "BaseException", .type "object"]
abbrev tIE : List Value := [.type "IndexError", .type "LookupError", .type "Exception", .type "BaseException", .type "object"]
abbrev tOE : List Value := [.type "OverflowError", .type "ArithmeticError", .type "Exception", .type "BaseException", .type "object"]
theorem bVE : Bse tVE "ValueError.__new__" := ⟨_, _, _, _, F.excBase_ValueError, ⟨by decide +kernel, by decide +kernel, by decide +kernel⟩, F.store_ValueError⟩
theorem bLE : Bse tLE "LookupError.__new__" := ⟨_, _, _, _, F.excBase_LookupError, ⟨by decide +kernel, by decide +kernel, by decide +kernel⟩, F.store_LookupError⟩
theorem bIE : Bse tIE "IndexError.__new__" := ⟨_, _, _, _, F.excBase_IndexError, ⟨by decide +kernel, by decide +kernel, by decide +kernel⟩, F.store_IndexError⟩
theorem bOE : Bse tOE "OverflowError.__new__" := ⟨_, _, _, _, F.excBase_OverflowError, ⟨by decide +kernel, by decide +kernel, by decide +kernel⟩, F.store_OverflowError⟩
theorem bKE : Bse keTail "LookupError.__new__" := ⟨_, _, _, _, F.excBase_LookupError, ⟨by decide +kernel, by decide +kernel, by decide +kernel⟩, keStore⟩
theorem clX_mk {P : Program} {w : World} {K : PySem.W.Frag} {mg : Str → Option Value} {base : Heap} {xs : List XR} {bs : List (String × List Str)} {x : XR} {qual : Str} {params : Arguments} {scope : Scope} {fd : FuncData} {p1 p2 p3 pos : Pos} {n : Nat} {ks : List Str} (Φ : XFs K mg xs bs) (hx : x ∈ xs) (b : Bse x.tail x.newId)
    (F : FunD K "__init__" qual params [.Assign [.Attribute (.Name "self" p1) x.f p2] (.Name x.f p3) pos] scope [] [] (He.ma K (He.ga K x.c) "__init__") fd) (S : FnScope ["self", x.f] ["self", x.f] scope)
    (h0 : scope.names.lookup ("self" : Str) = some NameKind.local) (h1 : scope.names.lookup x.f = some NameKind.local) (hd : (x.f == ("__debug__" : Str)) = false) (hcd : (x.f == ("__classdict__" : Str)) = false)
    (hs : ∀ env : PySem.Env, swapsWith (.Name x.f p3) (some (.Attribute (.Name "self" p1) x.f p2)) pos.line env = pure false)
    (kb : KBn K fd ["self", x.f] (n + 1) ks (fun us ws => us ++ ws) (fun vs zs => vs ++ zs)) : ClX P w K mg base x.c x.f n ks := by
  obtain ⟨B, B2, initId, bm1, FB, hB, SF⟩ := b.ex
  have Q := xr_ok (owX_all Φ.ow hx)
  exact ⟨_, _, fd, B, _, initId, _, bm1, Φ.xg x hx, ⟨FB, hB⟩, Q.xc, Q.init, Q.ty, Q.no, initX_ok SF F S h0 h1 hd hcd hs, kb⟩
end CL

set_option maxHeartbeats 0
namespace Gk04
open PySem L2 PySem.Spec PyProof.Rows CL
def top (i : Nat) : Stmt := PySem.Challenge.pw_lastinrow_k04_refusals_apart.main.body.getD i (.Pass ⟨0, 0, 0, 0⟩)
abbrev st__law_all : Stmt := top 20
abbrev st__law_bases : Stmt := top 23
abbrev st__law_by_names : Stmt := top 21
abbrev st__law_due : Stmt := top 24
abbrev st__law_fields : Stmt := top 25
abbrev st__law_kinds : Stmt := top 22
abbrev st_law : Stmt := top 26
abbrev st_NoPlayers : Stmt := inClass (top 1) 0
abbrev xr_NoPlayers : XR := ⟨"NoPlayers", "thing", tVE, "ValueError.__new__"⟩
abbrev st_NoVerdicts : Stmt := inClass (top 2) 0
abbrev xr_NoVerdicts : XR := ⟨"NoVerdicts", "thing", tVE, "ValueError.__new__"⟩
abbrev st_NoPair : Stmt := inClass (top 3) 0
abbrev xr_NoPair : XR := ⟨"NoPair", "thing", tVE, "ValueError.__new__"⟩
abbrev st_NoPairs : Stmt := inClass (top 4) 0
abbrev xr_NoPairs : XR := ⟨"NoPairs", "thing", tVE, "ValueError.__new__"⟩
abbrev st_NoLot : Stmt := inClass (top 5) 0
abbrev xr_NoLot : XR := ⟨"NoLot", "thing", tVE, "ValueError.__new__"⟩
abbrev st_NoTable : Stmt := inClass (top 6) 0
abbrev xr_NoTable : XR := ⟨"NoTable", "thing", tVE, "ValueError.__new__"⟩
abbrev st_NoKinds : Stmt := inClass (top 7) 0
abbrev xr_NoKinds : XR := ⟨"NoKinds", "thing", tVE, "ValueError.__new__"⟩
abbrev st_NoTruth : Stmt := inClass (top 8) 0
abbrev xr_NoTruth : XR := ⟨"NoTruth", "thing", tVE, "ValueError.__new__"⟩
abbrev st_NoWord : Stmt := inClass (top 9) 0
abbrev xr_NoWord : XR := ⟨"NoWord", "thing", tVE, "ValueError.__new__"⟩
abbrev st_NoText : Stmt := inClass (top 10) 0
abbrev xr_NoText : XR := ⟨"NoText", "at", tVE, "ValueError.__new__"⟩
abbrev st_NoPrices : Stmt := inClass (top 11) 0
abbrev xr_NoPrices : XR := ⟨"NoPrices", "at", tVE, "ValueError.__new__"⟩
abbrev st_NoPlayer : Stmt := inClass (top 12) 0
abbrev xr_NoPlayer : XR := ⟨"NoPlayer", "player", keTail, "LookupError.__new__"⟩
abbrev st_NoGap : Stmt := inClass (top 13) 0
abbrev xr_NoGap : XR := ⟨"NoGap", "gap", tIE, "IndexError.__new__"⟩
abbrev st_NoOrder : Stmt := inClass (top 14) 0
abbrev xr_NoOrder : XR := ⟨"NoOrder", "at", tIE, "IndexError.__new__"⟩
abbrev st_NoPlace : Stmt := inClass (top 15) 0
abbrev xr_NoPlace : XR := ⟨"NoPlace", "at", tIE, "IndexError.__new__"⟩
abbrev st_NoBack : Stmt := inClass (top 16) 0
abbrev xr_NoBack : XR := ⟨"NoBack", "many", tLE, "LookupError.__new__"⟩
abbrev st_NoRow : Stmt := inClass (top 17) 0
abbrev xr_NoRow : XR := ⟨"NoRow", "thing", tLE, "LookupError.__new__"⟩
abbrev st_TooMany : Stmt := inClass (top 18) 0
abbrev xr_TooMany : XR := ⟨"TooMany", "many", tOE, "OverflowError.__new__"⟩
def xrs : List XR := [xr_NoPlayers, xr_NoVerdicts, xr_NoPair, xr_NoPairs, xr_NoLot, xr_NoTable, xr_NoKinds, xr_NoTruth, xr_NoWord, xr_NoText, xr_NoPrices, xr_NoPlayer, xr_NoGap, xr_NoOrder, xr_NoPlace, xr_NoBack, xr_NoRow, xr_TooMany]
def nm_ValueError : List Str := ["NoPlayers", "NoVerdicts", "NoPair", "NoPairs", "NoLot", "NoTable", "NoKinds", "NoTruth", "NoWord", "NoText", "NoPrices"]
def nm_KeyError : List Str := ["NoPlayer"]
def nm_IndexError : List Str := ["NoGap", "NoOrder", "NoPlace"]
def nm_LookupError : List Str := ["NoPlayer", "NoGap", "NoOrder", "NoPlace", "NoBack", "NoRow"]
def nm_OverflowError : List Str := ["TooMany"]
def bss : List (String × List Str) := [("ValueError", nm_ValueError), ("KeyError", nm_KeyError), ("IndexError", nm_IndexError), ("LookupError", nm_LookupError), ("OverflowError", nm_OverflowError)]
/-- what the module holds -/
structure Fs (K : PySem.W.Frag) (mg : Str → Option Value) : Prop where
  xf : XFs K mg xrs bss
  f_IndexError : mg "IndexError" = none
  f_KeyError : mg "KeyError" = none
  f_LookupError : mg "LookupError" = none
  f_OverflowError : mg "OverflowError" = none
  f_ValueError : mg "ValueError" = none
  f_enumerate : mg "enumerate" = none
  f_isinstance : mg "isinstance" = none
  f_len : mg "len" = none
  f_max : mg "max" = none
  f_min : mg "min" = none
  f_range : mg "range" = none
  f_repr : mg "repr" = none
  d__law_all : ∃ fd, FunD K "_law_all" "_law_all" (defArgs st__law_all) (defBody st__law_all) (defScope st__law_all) [] [] (He.ga K "_law_all") fd
  g__law_all : mg "_law_all" = some (.ref (He.ga K "_law_all"))
  d__law_bases : ∃ fd, FunD K "_law_bases" "_law_bases" (defArgs st__law_bases) (defBody st__law_bases) (defScope st__law_bases) [] [] (He.ga K "_law_bases") fd
  g__law_bases : mg "_law_bases" = some (.ref (He.ga K "_law_bases"))
  d__law_by_names : ∃ fd, FunD K "_law_by_names" "_law_by_names" (defArgs st__law_by_names) (defBody st__law_by_names) (defScope st__law_by_names) [] [] (He.ga K "_law_by_names") fd
  g__law_by_names : mg "_law_by_names" = some (.ref (He.ga K "_law_by_names"))
  d__law_due : ∃ fd, FunD K "_law_due" "_law_due" (defArgs st__law_due) (defBody st__law_due) (defScope st__law_due) [] [] (He.ga K "_law_due") fd
  g__law_due : mg "_law_due" = some (.ref (He.ga K "_law_due"))
  d__law_fields : ∃ fd, FunD K "_law_fields" "_law_fields" (defArgs st__law_fields) (defBody st__law_fields) (defScope st__law_fields) [] [] (He.ga K "_law_fields") fd
  g__law_fields : mg "_law_fields" = some (.ref (He.ga K "_law_fields"))
  d__law_kinds : ∃ fd, FunD K "_law_kinds" "_law_kinds" (defArgs st__law_kinds) (defBody st__law_kinds) (defScope st__law_kinds) [] [] (He.ga K "_law_kinds") fd
  g__law_kinds : mg "_law_kinds" = some (.ref (He.ga K "_law_kinds"))
  d_law : ∃ fd, FunD K "law" "law" (defArgs st_law) (defBody st_law) (defScope st_law) [] [] (He.ga K "law") fd
  g_law : mg "law" = some (.ref (He.ga K "law"))
  d_NoPlayers : ∃ fd, FunD K "__init__" "NoPlayers.__init__" (defArgs st_NoPlayers) (defBody st_NoPlayers) (defScope st_NoPlayers) [] [] (He.ma K (He.ga K "NoPlayers") "__init__") fd
  d_NoVerdicts : ∃ fd, FunD K "__init__" "NoVerdicts.__init__" (defArgs st_NoVerdicts) (defBody st_NoVerdicts) (defScope st_NoVerdicts) [] [] (He.ma K (He.ga K "NoVerdicts") "__init__") fd
  d_NoPair : ∃ fd, FunD K "__init__" "NoPair.__init__" (defArgs st_NoPair) (defBody st_NoPair) (defScope st_NoPair) [] [] (He.ma K (He.ga K "NoPair") "__init__") fd
  d_NoPairs : ∃ fd, FunD K "__init__" "NoPairs.__init__" (defArgs st_NoPairs) (defBody st_NoPairs) (defScope st_NoPairs) [] [] (He.ma K (He.ga K "NoPairs") "__init__") fd
  d_NoLot : ∃ fd, FunD K "__init__" "NoLot.__init__" (defArgs st_NoLot) (defBody st_NoLot) (defScope st_NoLot) [] [] (He.ma K (He.ga K "NoLot") "__init__") fd
  d_NoTable : ∃ fd, FunD K "__init__" "NoTable.__init__" (defArgs st_NoTable) (defBody st_NoTable) (defScope st_NoTable) [] [] (He.ma K (He.ga K "NoTable") "__init__") fd
  d_NoKinds : ∃ fd, FunD K "__init__" "NoKinds.__init__" (defArgs st_NoKinds) (defBody st_NoKinds) (defScope st_NoKinds) [] [] (He.ma K (He.ga K "NoKinds") "__init__") fd
  d_NoTruth : ∃ fd, FunD K "__init__" "NoTruth.__init__" (defArgs st_NoTruth) (defBody st_NoTruth) (defScope st_NoTruth) [] [] (He.ma K (He.ga K "NoTruth") "__init__") fd
  d_NoWord : ∃ fd, FunD K "__init__" "NoWord.__init__" (defArgs st_NoWord) (defBody st_NoWord) (defScope st_NoWord) [] [] (He.ma K (He.ga K "NoWord") "__init__") fd
  d_NoText : ∃ fd, FunD K "__init__" "NoText.__init__" (defArgs st_NoText) (defBody st_NoText) (defScope st_NoText) [] [] (He.ma K (He.ga K "NoText") "__init__") fd
  d_NoPrices : ∃ fd, FunD K "__init__" "NoPrices.__init__" (defArgs st_NoPrices) (defBody st_NoPrices) (defScope st_NoPrices) [] [] (He.ma K (He.ga K "NoPrices") "__init__") fd
  d_NoPlayer : ∃ fd, FunD K "__init__" "NoPlayer.__init__" (defArgs st_NoPlayer) (defBody st_NoPlayer) (defScope st_NoPlayer) [] [] (He.ma K (He.ga K "NoPlayer") "__init__") fd
  d_NoGap : ∃ fd, FunD K "__init__" "NoGap.__init__" (defArgs st_NoGap) (defBody st_NoGap) (defScope st_NoGap) [] [] (He.ma K (He.ga K "NoGap") "__init__") fd
  d_NoOrder : ∃ fd, FunD K "__init__" "NoOrder.__init__" (defArgs st_NoOrder) (defBody st_NoOrder) (defScope st_NoOrder) [] [] (He.ma K (He.ga K "NoOrder") "__init__") fd
  d_NoPlace : ∃ fd, FunD K "__init__" "NoPlace.__init__" (defArgs st_NoPlace) (defBody st_NoPlace) (defScope st_NoPlace) [] [] (He.ma K (He.ga K "NoPlace") "__init__") fd
  d_NoBack : ∃ fd, FunD K "__init__" "NoBack.__init__" (defArgs st_NoBack) (defBody st_NoBack) (defScope st_NoBack) [] [] (He.ma K (He.ga K "NoBack") "__init__") fd
  d_NoRow : ∃ fd, FunD K "__init__" "NoRow.__init__" (defArgs st_NoRow) (defBody st_NoRow) (defScope st_NoRow) [] [] (He.ma K (He.ga K "NoRow") "__init__") fd
  d_TooMany : ∃ fd, FunD K "__init__" "TooMany.__init__" (defArgs st_TooMany) (defBody st_TooMany) (defScope st_TooMany) [] [] (He.ma K (He.ga K "TooMany") "__init__") fd
theorem sc_NoPlayers : FnScope ["self", "thing"] ["self", "thing"] (defScope st_NoPlayers) := ⟨rfl, rfl, rfl, by decide +kernel, rfl, by decide +kernel, by decide +kernel⟩
theorem clP_NoPlayers {P : Program} {w : World} {K : PySem.W.Frag} {mg : Str → Option Value} {base : Heap} (Φ : Fs K mg) : ClX P w K mg base "NoPlayers" "thing" 1 [] := by
  obtain ⟨fd, fD⟩ := Φ.d_NoPlayers
  exact clX_mk (x := xr_NoPlayers) Φ.xf (List.mem_of_getElem? (i := 0) rfl) bVE fD sc_NoPlayers rfl rfl (by decide) (by decide) (fun _ => rfl) (kbX fD 2 [] fun _ _ _ _ _ _ us ws h1 h2 => match us, ws, h1, h2 with | [_, _], [], _, _ => rfl)
theorem clK_NoPlayers {P : Program} {w : World} {K : PySem.W.Frag} {mg : Str → Option Value} {base : Heap} (Φ : Fs K mg) : ClX P w K mg base "NoPlayers" "thing" 0 ["thing"] := by
  obtain ⟨fd, fD⟩ := Φ.d_NoPlayers
  exact clX_mk (x := xr_NoPlayers) Φ.xf (List.mem_of_getElem? (i := 0) rfl) bVE fD sc_NoPlayers rfl rfl (by decide) (by decide) (fun _ => rfl) (kbX fD 1 ["thing"] fun _ _ _ _ _ _ us ws h1 h2 => match us, ws, h1, h2 with | [_], [_], _, _ => rfl)
theorem sc_NoVerdicts : FnScope ["self", "thing"] ["self", "thing"] (defScope st_NoVerdicts) := ⟨rfl, rfl, rfl, by decide +kernel, rfl, by decide +kernel, by decide +kernel⟩
theorem clP_NoVerdicts {P : Program} {w : World} {K : PySem.W.Frag} {mg : Str → Option Value} {base : Heap} (Φ : Fs K mg) : ClX P w K mg base "NoVerdicts" "thing" 1 [] := by
  obtain ⟨fd, fD⟩ := Φ.d_NoVerdicts
  exact clX_mk (x := xr_NoVerdicts) Φ.xf (List.mem_of_getElem? (i := 1) rfl) bVE fD sc_NoVerdicts rfl rfl (by decide) (by decide) (fun _ => rfl) (kbX fD 2 [] fun _ _ _ _ _ _ us ws h1 h2 => match us, ws, h1, h2 with | [_, _], [], _, _ => rfl)
theorem clK_NoVerdicts {P : Program} {w : World} {K : PySem.W.Frag} {mg : Str → Option Value} {base : Heap} (Φ : Fs K mg) : ClX P w K mg base "NoVerdicts" "thing" 0 ["thing"] := by
  obtain ⟨fd, fD⟩ := Φ.d_NoVerdicts
  exact clX_mk (x := xr_NoVerdicts) Φ.xf (List.mem_of_getElem? (i := 1) rfl) bVE fD sc_NoVerdicts rfl rfl (by decide) (by decide) (fun _ => rfl) (kbX fD 1 ["thing"] fun _ _ _ _ _ _ us ws h1 h2 => match us, ws, h1, h2 with | [_], [_], _, _ => rfl)
theorem sc_NoPair : FnScope ["self", "thing"] ["self", "thing"] (defScope st_NoPair) := ⟨rfl, rfl, rfl, by decide +kernel, rfl, by decide +kernel, by decide +kernel⟩
theorem clP_NoPair {P : Program} {w : World} {K : PySem.W.Frag} {mg : Str → Option Value} {base : Heap} (Φ : Fs K mg) : ClX P w K mg base "NoPair" "thing" 1 [] := by
  obtain ⟨fd, fD⟩ := Φ.d_NoPair
  exact clX_mk (x := xr_NoPair) Φ.xf (List.mem_of_getElem? (i := 2) rfl) bVE fD sc_NoPair rfl rfl (by decide) (by decide) (fun _ => rfl) (kbX fD 2 [] fun _ _ _ _ _ _ us ws h1 h2 => match us, ws, h1, h2 with | [_, _], [], _, _ => rfl)
theorem clK_NoPair {P : Program} {w : World} {K : PySem.W.Frag} {mg : Str → Option Value} {base : Heap} (Φ : Fs K mg) : ClX P w K mg base "NoPair" "thing" 0 ["thing"] := by
  obtain ⟨fd, fD⟩ := Φ.d_NoPair
  exact clX_mk (x := xr_NoPair) Φ.xf (List.mem_of_getElem? (i := 2) rfl) bVE fD sc_NoPair rfl rfl (by decide) (by decide) (fun _ => rfl) (kbX fD 1 ["thing"] fun _ _ _ _ _ _ us ws h1 h2 => match us, ws, h1, h2 with | [_], [_], _, _ => rfl)
theorem sc_NoPairs : FnScope ["self", "thing"] ["self", "thing"] (defScope st_NoPairs) := ⟨rfl, rfl, rfl, by decide +kernel, rfl, by decide +kernel, by decide +kernel⟩
theorem clP_NoPairs {P : Program} {w : World} {K : PySem.W.Frag} {mg : Str → Option Value} {base : Heap} (Φ : Fs K mg) : ClX P w K mg base "NoPairs" "thing" 1 [] := by
  obtain ⟨fd, fD⟩ := Φ.d_NoPairs
  exact clX_mk (x := xr_NoPairs) Φ.xf (List.mem_of_getElem? (i := 3) rfl) bVE fD sc_NoPairs rfl rfl (by decide) (by decide) (fun _ => rfl) (kbX fD 2 [] fun _ _ _ _ _ _ us ws h1 h2 => match us, ws, h1, h2 with | [_, _], [], _, _ => rfl)
theorem clK_NoPairs {P : Program} {w : World} {K : PySem.W.Frag} {mg : Str → Option Value} {base : Heap} (Φ : Fs K mg) : ClX P w K mg base "NoPairs" "thing" 0 ["thing"] := by
  obtain ⟨fd, fD⟩ := Φ.d_NoPairs
  exact clX_mk (x := xr_NoPairs) Φ.xf (List.mem_of_getElem? (i := 3) rfl) bVE fD sc_NoPairs rfl rfl (by decide) (by decide) (fun _ => rfl) (kbX fD 1 ["thing"] fun _ _ _ _ _ _ us ws h1 h2 => match us, ws, h1, h2 with | [_], [_], _, _ => rfl)
theorem sc_NoLot : FnScope ["self", "thing"] ["self", "thing"] (defScope st_NoLot) := ⟨rfl, rfl, rfl, by decide +kernel, rfl, by decide +kernel, by decide +kernel⟩
theorem clP_NoLot {P : Program} {w : World} {K : PySem.W.Frag} {mg : Str → Option Value} {base : Heap} (Φ : Fs K mg) : ClX P w K mg base "NoLot" "thing" 1 [] := by
  obtain ⟨fd, fD⟩ := Φ.d_NoLot
  exact clX_mk (x := xr_NoLot) Φ.xf (List.mem_of_getElem? (i := 4) rfl) bVE fD sc_NoLot rfl rfl (by decide) (by decide) (fun _ => rfl) (kbX fD 2 [] fun _ _ _ _ _ _ us ws h1 h2 => match us, ws, h1, h2 with | [_, _], [], _, _ => rfl)
theorem clK_NoLot {P : Program} {w : World} {K : PySem.W.Frag} {mg : Str → Option Value} {base : Heap} (Φ : Fs K mg) : ClX P w K mg base "NoLot" "thing" 0 ["thing"] := by
  obtain ⟨fd, fD⟩ := Φ.d_NoLot
  exact clX_mk (x := xr_NoLot) Φ.xf (List.mem_of_getElem? (i := 4) rfl) bVE fD sc_NoLot rfl rfl (by decide) (by decide) (fun _ => rfl) (kbX fD 1 ["thing"] fun _ _ _ _ _ _ us ws h1 h2 => match us, ws, h1, h2 with | [_], [_], _, _ => rfl)
theorem sc_NoTable : FnScope ["self", "thing"] ["self", "thing"] (defScope st_NoTable) := ⟨rfl, rfl, rfl, by decide +kernel, rfl, by decide +kernel, by decide +kernel⟩
theorem clP_NoTable {P : Program} {w : World} {K : PySem.W.Frag} {mg : Str → Option Value} {base : Heap} (Φ : Fs K mg) : ClX P w K mg base "NoTable" "thing" 1 [] := by
  obtain ⟨fd, fD⟩ := Φ.d_NoTable
  exact clX_mk (x := xr_NoTable) Φ.xf (List.mem_of_getElem? (i := 5) rfl) bVE fD sc_NoTable rfl rfl (by decide) (by decide) (fun _ => rfl) (kbX fD 2 [] fun _ _ _ _ _ _ us ws h1 h2 => match us, ws, h1, h2 with | [_, _], [], _, _ => rfl)
theorem clK_NoTable {P : Program} {w : World} {K : PySem.W.Frag} {mg : Str → Option Value} {base : Heap} (Φ : Fs K mg) : ClX P w K mg base "NoTable" "thing" 0 ["thing"] := by
  obtain ⟨fd, fD⟩ := Φ.d_NoTable
  exact clX_mk (x := xr_NoTable) Φ.xf (List.mem_of_getElem? (i := 5) rfl) bVE fD sc_NoTable rfl rfl (by decide) (by decide) (fun _ => rfl) (kbX fD 1 ["thing"] fun _ _ _ _ _ _ us ws h1 h2 => match us, ws, h1, h2 with | [_], [_], _, _ => rfl)
theorem sc_NoKinds : FnScope ["self", "thing"] ["self", "thing"] (defScope st_NoKinds) := ⟨rfl, rfl, rfl, by decide +kernel, rfl, by decide +kernel, by decide +kernel⟩
theorem clP_NoKinds {P : Program} {w : World} {K : PySem.W.Frag} {mg : Str → Option Value} {base : Heap} (Φ : Fs K mg) : ClX P w K mg base "NoKinds" "thing" 1 [] := by
  obtain ⟨fd, fD⟩ := Φ.d_NoKinds
  exact clX_mk (x := xr_NoKinds) Φ.xf (List.mem_of_getElem? (i := 6) rfl) bVE fD sc_NoKinds rfl rfl (by decide) (by decide) (fun _ => rfl) (kbX fD 2 [] fun _ _ _ _ _ _ us ws h1 h2 => match us, ws, h1, h2 with | [_, _], [], _, _ => rfl)
theorem clK_NoKinds {P : Program} {w : World} {K : PySem.W.Frag} {mg : Str → Option Value} {base : Heap} (Φ : Fs K mg) : ClX P w K mg base "NoKinds" "thing" 0 ["thing"] := by
  obtain ⟨fd, fD⟩ := Φ.d_NoKinds
  exact clX_mk (x := xr_NoKinds) Φ.xf (List.mem_of_getElem? (i := 6) rfl) bVE fD sc_NoKinds rfl rfl (by decide) (by decide) (fun _ => rfl) (kbX fD 1 ["thing"] fun _ _ _ _ _ _ us ws h1 h2 => match us, ws, h1, h2 with | [_], [_], _, _ => rfl)
theorem sc_NoTruth : FnScope ["self", "thing"] ["self", "thing"] (defScope st_NoTruth) := ⟨rfl, rfl, rfl, by decide +kernel, rfl, by decide +kernel, by decide +kernel⟩
theorem clP_NoTruth {P : Program} {w : World} {K : PySem.W.Frag} {mg : Str → Option Value} {base : Heap} (Φ : Fs K mg) : ClX P w K mg base "NoTruth" "thing" 1 [] := by
  obtain ⟨fd, fD⟩ := Φ.d_NoTruth
  exact clX_mk (x := xr_NoTruth) Φ.xf (List.mem_of_getElem? (i := 7) rfl) bVE fD sc_NoTruth rfl rfl (by decide) (by decide) (fun _ => rfl) (kbX fD 2 [] fun _ _ _ _ _ _ us ws h1 h2 => match us, ws, h1, h2 with | [_, _], [], _, _ => rfl)
theorem clK_NoTruth {P : Program} {w : World} {K : PySem.W.Frag} {mg : Str → Option Value} {base : Heap} (Φ : Fs K mg) : ClX P w K mg base "NoTruth" "thing" 0 ["thing"] := by
  obtain ⟨fd, fD⟩ := Φ.d_NoTruth
  exact clX_mk (x := xr_NoTruth) Φ.xf (List.mem_of_getElem? (i := 7) rfl) bVE fD sc_NoTruth rfl rfl (by decide) (by decide) (fun _ => rfl) (kbX fD 1 ["thing"] fun _ _ _ _ _ _ us ws h1 h2 => match us, ws, h1, h2 with | [_], [_], _, _ => rfl)
theorem sc_NoWord : FnScope ["self", "thing"] ["self", "thing"] (defScope st_NoWord) := ⟨rfl, rfl, rfl, by decide +kernel, rfl, by decide +kernel, by decide +kernel⟩
theorem clP_NoWord {P : Program} {w : World} {K : PySem.W.Frag} {mg : Str → Option Value} {base : Heap} (Φ : Fs K mg) : ClX P w K mg base "NoWord" "thing" 1 [] := by
  obtain ⟨fd, fD⟩ := Φ.d_NoWord
  exact clX_mk (x := xr_NoWord) Φ.xf (List.mem_of_getElem? (i := 8) rfl) bVE fD sc_NoWord rfl rfl (by decide) (by decide) (fun _ => rfl) (kbX fD 2 [] fun _ _ _ _ _ _ us ws h1 h2 => match us, ws, h1, h2 with | [_, _], [], _, _ => rfl)
theorem clK_NoWord {P : Program} {w : World} {K : PySem.W.Frag} {mg : Str → Option Value} {base : Heap} (Φ : Fs K mg) : ClX P w K mg base "NoWord" "thing" 0 ["thing"] := by
  obtain ⟨fd, fD⟩ := Φ.d_NoWord
  exact clX_mk (x := xr_NoWord) Φ.xf (List.mem_of_getElem? (i := 8) rfl) bVE fD sc_NoWord rfl rfl (by decide) (by decide) (fun _ => rfl) (kbX fD 1 ["thing"] fun _ _ _ _ _ _ us ws h1 h2 => match us, ws, h1, h2 with | [_], [_], _, _ => rfl)
theorem sc_NoText : FnScope ["self", "at"] ["self", "at"] (defScope st_NoText) := ⟨rfl, rfl, rfl, by decide +kernel, rfl, by decide +kernel, by decide +kernel⟩
theorem clP_NoText {P : Program} {w : World} {K : PySem.W.Frag} {mg : Str → Option Value} {base : Heap} (Φ : Fs K mg) : ClX P w K mg base "NoText" "at" 1 [] := by
  obtain ⟨fd, fD⟩ := Φ.d_NoText
  exact clX_mk (x := xr_NoText) Φ.xf (List.mem_of_getElem? (i := 9) rfl) bVE fD sc_NoText rfl rfl (by decide) (by decide) (fun _ => rfl) (kbX fD 2 [] fun _ _ _ _ _ _ us ws h1 h2 => match us, ws, h1, h2 with | [_, _], [], _, _ => rfl)
theorem clK_NoText {P : Program} {w : World} {K : PySem.W.Frag} {mg : Str → Option Value} {base : Heap} (Φ : Fs K mg) : ClX P w K mg base "NoText" "at" 0 ["at"] := by
  obtain ⟨fd, fD⟩ := Φ.d_NoText
  exact clX_mk (x := xr_NoText) Φ.xf (List.mem_of_getElem? (i := 9) rfl) bVE fD sc_NoText rfl rfl (by decide) (by decide) (fun _ => rfl) (kbX fD 1 ["at"] fun _ _ _ _ _ _ us ws h1 h2 => match us, ws, h1, h2 with | [_], [_], _, _ => rfl)
theorem sc_NoPrices : FnScope ["self", "at"] ["self", "at"] (defScope st_NoPrices) := ⟨rfl, rfl, rfl, by decide +kernel, rfl, by decide +kernel, by decide +kernel⟩
theorem clP_NoPrices {P : Program} {w : World} {K : PySem.W.Frag} {mg : Str → Option Value} {base : Heap} (Φ : Fs K mg) : ClX P w K mg base "NoPrices" "at" 1 [] := by
  obtain ⟨fd, fD⟩ := Φ.d_NoPrices
  exact clX_mk (x := xr_NoPrices) Φ.xf (List.mem_of_getElem? (i := 10) rfl) bVE fD sc_NoPrices rfl rfl (by decide) (by decide) (fun _ => rfl) (kbX fD 2 [] fun _ _ _ _ _ _ us ws h1 h2 => match us, ws, h1, h2 with | [_, _], [], _, _ => rfl)
theorem clK_NoPrices {P : Program} {w : World} {K : PySem.W.Frag} {mg : Str → Option Value} {base : Heap} (Φ : Fs K mg) : ClX P w K mg base "NoPrices" "at" 0 ["at"] := by
  obtain ⟨fd, fD⟩ := Φ.d_NoPrices
  exact clX_mk (x := xr_NoPrices) Φ.xf (List.mem_of_getElem? (i := 10) rfl) bVE fD sc_NoPrices rfl rfl (by decide) (by decide) (fun _ => rfl) (kbX fD 1 ["at"] fun _ _ _ _ _ _ us ws h1 h2 => match us, ws, h1, h2 with | [_], [_], _, _ => rfl)
theorem sc_NoPlayer : FnScope ["self", "player"] ["self", "player"] (defScope st_NoPlayer) := ⟨rfl, rfl, rfl, by decide +kernel, rfl, by decide +kernel, by decide +kernel⟩
theorem clP_NoPlayer {P : Program} {w : World} {K : PySem.W.Frag} {mg : Str → Option Value} {base : Heap} (Φ : Fs K mg) : ClX P w K mg base "NoPlayer" "player" 1 [] := by
  obtain ⟨fd, fD⟩ := Φ.d_NoPlayer
  exact clX_mk (x := xr_NoPlayer) Φ.xf (List.mem_of_getElem? (i := 11) rfl) bKE fD sc_NoPlayer rfl rfl (by decide) (by decide) (fun _ => rfl) (kbX fD 2 [] fun _ _ _ _ _ _ us ws h1 h2 => match us, ws, h1, h2 with | [_, _], [], _, _ => rfl)
theorem clK_NoPlayer {P : Program} {w : World} {K : PySem.W.Frag} {mg : Str → Option Value} {base : Heap} (Φ : Fs K mg) : ClX P w K mg base "NoPlayer" "player" 0 ["player"] := by
  obtain ⟨fd, fD⟩ := Φ.d_NoPlayer
  exact clX_mk (x := xr_NoPlayer) Φ.xf (List.mem_of_getElem? (i := 11) rfl) bKE fD sc_NoPlayer rfl rfl (by decide) (by decide) (fun _ => rfl) (kbX fD 1 ["player"] fun _ _ _ _ _ _ us ws h1 h2 => match us, ws, h1, h2 with | [_], [_], _, _ => rfl)
theorem sc_NoGap : FnScope ["self", "gap"] ["self", "gap"] (defScope st_NoGap) := ⟨rfl, rfl, rfl, by decide +kernel, rfl, by decide +kernel, by decide +kernel⟩
theorem clP_NoGap {P : Program} {w : World} {K : PySem.W.Frag} {mg : Str → Option Value} {base : Heap} (Φ : Fs K mg) : ClX P w K mg base "NoGap" "gap" 1 [] := by
  obtain ⟨fd, fD⟩ := Φ.d_NoGap
  exact clX_mk (x := xr_NoGap) Φ.xf (List.mem_of_getElem? (i := 12) rfl) bIE fD sc_NoGap rfl rfl (by decide) (by decide) (fun _ => rfl) (kbX fD 2 [] fun _ _ _ _ _ _ us ws h1 h2 => match us, ws, h1, h2 with | [_, _], [], _, _ => rfl)
theorem clK_NoGap {P : Program} {w : World} {K : PySem.W.Frag} {mg : Str → Option Value} {base : Heap} (Φ : Fs K mg) : ClX P w K mg base "NoGap" "gap" 0 ["gap"] := by
  obtain ⟨fd, fD⟩ := Φ.d_NoGap
  exact clX_mk (x := xr_NoGap) Φ.xf (List.mem_of_getElem? (i := 12) rfl) bIE fD sc_NoGap rfl rfl (by decide) (by decide) (fun _ => rfl) (kbX fD 1 ["gap"] fun _ _ _ _ _ _ us ws h1 h2 => match us, ws, h1, h2 with | [_], [_], _, _ => rfl)
theorem sc_NoOrder : FnScope ["self", "at"] ["self", "at"] (defScope st_NoOrder) := ⟨rfl, rfl, rfl, by decide +kernel, rfl, by decide +kernel, by decide +kernel⟩
theorem clP_NoOrder {P : Program} {w : World} {K : PySem.W.Frag} {mg : Str → Option Value} {base : Heap} (Φ : Fs K mg) : ClX P w K mg base "NoOrder" "at" 1 [] := by
  obtain ⟨fd, fD⟩ := Φ.d_NoOrder
  exact clX_mk (x := xr_NoOrder) Φ.xf (List.mem_of_getElem? (i := 13) rfl) bIE fD sc_NoOrder rfl rfl (by decide) (by decide) (fun _ => rfl) (kbX fD 2 [] fun _ _ _ _ _ _ us ws h1 h2 => match us, ws, h1, h2 with | [_, _], [], _, _ => rfl)
theorem clK_NoOrder {P : Program} {w : World} {K : PySem.W.Frag} {mg : Str → Option Value} {base : Heap} (Φ : Fs K mg) : ClX P w K mg base "NoOrder" "at" 0 ["at"] := by
  obtain ⟨fd, fD⟩ := Φ.d_NoOrder
  exact clX_mk (x := xr_NoOrder) Φ.xf (List.mem_of_getElem? (i := 13) rfl) bIE fD sc_NoOrder rfl rfl (by decide) (by decide) (fun _ => rfl) (kbX fD 1 ["at"] fun _ _ _ _ _ _ us ws h1 h2 => match us, ws, h1, h2 with | [_], [_], _, _ => rfl)
theorem sc_NoPlace : FnScope ["self", "at"] ["self", "at"] (defScope st_NoPlace) := ⟨rfl, rfl, rfl, by decide +kernel, rfl, by decide +kernel, by decide +kernel⟩
theorem clP_NoPlace {P : Program} {w : World} {K : PySem.W.Frag} {mg : Str → Option Value} {base : Heap} (Φ : Fs K mg) : ClX P w K mg base "NoPlace" "at" 1 [] := by
  obtain ⟨fd, fD⟩ := Φ.d_NoPlace
  exact clX_mk (x := xr_NoPlace) Φ.xf (List.mem_of_getElem? (i := 14) rfl) bIE fD sc_NoPlace rfl rfl (by decide) (by decide) (fun _ => rfl) (kbX fD 2 [] fun _ _ _ _ _ _ us ws h1 h2 => match us, ws, h1, h2 with | [_, _], [], _, _ => rfl)
theorem clK_NoPlace {P : Program} {w : World} {K : PySem.W.Frag} {mg : Str → Option Value} {base : Heap} (Φ : Fs K mg) : ClX P w K mg base "NoPlace" "at" 0 ["at"] := by
  obtain ⟨fd, fD⟩ := Φ.d_NoPlace
  exact clX_mk (x := xr_NoPlace) Φ.xf (List.mem_of_getElem? (i := 14) rfl) bIE fD sc_NoPlace rfl rfl (by decide) (by decide) (fun _ => rfl) (kbX fD 1 ["at"] fun _ _ _ _ _ _ us ws h1 h2 => match us, ws, h1, h2 with | [_], [_], _, _ => rfl)
theorem sc_NoBack : FnScope ["self", "many"] ["self", "many"] (defScope st_NoBack) := ⟨rfl, rfl, rfl, by decide +kernel, rfl, by decide +kernel, by decide +kernel⟩
theorem clP_NoBack {P : Program} {w : World} {K : PySem.W.Frag} {mg : Str → Option Value} {base : Heap} (Φ : Fs K mg) : ClX P w K mg base "NoBack" "many" 1 [] := by
  obtain ⟨fd, fD⟩ := Φ.d_NoBack
  exact clX_mk (x := xr_NoBack) Φ.xf (List.mem_of_getElem? (i := 15) rfl) bLE fD sc_NoBack rfl rfl (by decide) (by decide) (fun _ => rfl) (kbX fD 2 [] fun _ _ _ _ _ _ us ws h1 h2 => match us, ws, h1, h2 with | [_, _], [], _, _ => rfl)
theorem clK_NoBack {P : Program} {w : World} {K : PySem.W.Frag} {mg : Str → Option Value} {base : Heap} (Φ : Fs K mg) : ClX P w K mg base "NoBack" "many" 0 ["many"] := by
  obtain ⟨fd, fD⟩ := Φ.d_NoBack
  exact clX_mk (x := xr_NoBack) Φ.xf (List.mem_of_getElem? (i := 15) rfl) bLE fD sc_NoBack rfl rfl (by decide) (by decide) (fun _ => rfl) (kbX fD 1 ["many"] fun _ _ _ _ _ _ us ws h1 h2 => match us, ws, h1, h2 with | [_], [_], _, _ => rfl)
theorem sc_NoRow : FnScope ["self", "thing"] ["self", "thing"] (defScope st_NoRow) := ⟨rfl, rfl, rfl, by decide +kernel, rfl, by decide +kernel, by decide +kernel⟩
theorem clP_NoRow {P : Program} {w : World} {K : PySem.W.Frag} {mg : Str → Option Value} {base : Heap} (Φ : Fs K mg) : ClX P w K mg base "NoRow" "thing" 1 [] := by
  obtain ⟨fd, fD⟩ := Φ.d_NoRow
  exact clX_mk (x := xr_NoRow) Φ.xf (List.mem_of_getElem? (i := 16) rfl) bLE fD sc_NoRow rfl rfl (by decide) (by decide) (fun _ => rfl) (kbX fD 2 [] fun _ _ _ _ _ _ us ws h1 h2 => match us, ws, h1, h2 with | [_, _], [], _, _ => rfl)
theorem clK_NoRow {P : Program} {w : World} {K : PySem.W.Frag} {mg : Str → Option Value} {base : Heap} (Φ : Fs K mg) : ClX P w K mg base "NoRow" "thing" 0 ["thing"] := by
  obtain ⟨fd, fD⟩ := Φ.d_NoRow
  exact clX_mk (x := xr_NoRow) Φ.xf (List.mem_of_getElem? (i := 16) rfl) bLE fD sc_NoRow rfl rfl (by decide) (by decide) (fun _ => rfl) (kbX fD 1 ["thing"] fun _ _ _ _ _ _ us ws h1 h2 => match us, ws, h1, h2 with | [_], [_], _, _ => rfl)
theorem sc_TooMany : FnScope ["self", "many"] ["self", "many"] (defScope st_TooMany) := ⟨rfl, rfl, rfl, by decide +kernel, rfl, by decide +kernel, by decide +kernel⟩
theorem clP_TooMany {P : Program} {w : World} {K : PySem.W.Frag} {mg : Str → Option Value} {base : Heap} (Φ : Fs K mg) : ClX P w K mg base "TooMany" "many" 1 [] := by
  obtain ⟨fd, fD⟩ := Φ.d_TooMany
  exact clX_mk (x := xr_TooMany) Φ.xf (List.mem_of_getElem? (i := 17) rfl) bOE fD sc_TooMany rfl rfl (by decide) (by decide) (fun _ => rfl) (kbX fD 2 [] fun _ _ _ _ _ _ us ws h1 h2 => match us, ws, h1, h2 with | [_, _], [], _, _ => rfl)
theorem clK_TooMany {P : Program} {w : World} {K : PySem.W.Frag} {mg : Str → Option Value} {base : Heap} (Φ : Fs K mg) : ClX P w K mg base "TooMany" "many" 0 ["many"] := by
  obtain ⟨fd, fD⟩ := Φ.d_TooMany
  exact clX_mk (x := xr_TooMany) Φ.xf (List.mem_of_getElem? (i := 17) rfl) bOE fD sc_TooMany rfl rfl (by decide) (by decide) (fun _ => rfl) (kbX fD 1 ["many"] fun _ _ _ _ _ _ us ws h1 h2 => match us, ws, h1, h2 with | [_], [_], _, _ => rfl)
theorem sc__law_all : FnScope ["_law_odd", "_law_found"] ["_law_odd"] (defScope st__law_all) := ⟨rfl, rfl, rfl, by decide +kernel, rfl, by decide +kernel, by decide +kernel⟩
def b__law_all : MS := (sSeq (sAsg (mLst (mCons (mCallG 1 0 (fun ds es => ds ++ es) (gExc "NoPlayers" "thing") (mCons (mVar 0) mNil) mNil) (mCons (mCallG 1 0 (fun ds es => ds ++ es) (gExc "NoVerdicts" "thing") (mCons (mVar 0) mNil) mNil) (mCons (mCallG 1 0 (fun ds es => ds ++ es) (gExc "NoPair" "thing") (mCons (mVar 0) mNil) mNil) (mCons (mCallG 1 0 (fun ds es => ds ++ es) (gExc "NoPairs" "thing") (mCons (mVar 0) mNil) mNil) (mCons (mCallG 1 0 (fun ds es => ds ++ es) (gExc "NoLot" "thing") (mCons (mVar 0) mNil) mNil) (mCons (mCallG 1 0 (fun ds es => ds ++ es) (gExc "NoTable" "thing") (mCons (mVar 0) mNil) mNil) (mCons (mCallG 1 0 (fun ds es => ds ++ es) (gExc "NoKinds" "thing") (mCons (mVar 0) mNil) mNil) mNil)))))))) (tgName 1)) (sSeq (sAsg (mBin (dAddK kFz) (mVar 1) (mLst (mCons (mCallG 1 0 (fun ds es => ds ++ es) (gExc "NoTruth" "thing") (mCons (mVar 0) mNil) mNil) (mCons (mCallG 1 0 (fun ds es => ds ++ es) (gExc "NoWord" "thing") (mCons (mVar 0) mNil) mNil) (mCons (mCallG 1 0 (fun ds es => ds ++ es) (gExc "NoText" "at") (mCons (mVar 0) mNil) mNil) (mCons (mCallG 1 0 (fun ds es => ds ++ es) (gExc "NoPrices" "at") (mCons (mVar 0) mNil) mNil) (mCons (mCallG 1 0 (fun ds es => ds ++ es) (gExc "NoPlayer" "player") (mCons (mVar 0) mNil) mNil) (mCons (mCallG 1 0 (fun ds es => ds ++ es) (gExc "NoGap" "gap") (mCons (mVar 0) mNil) mNil) (mCons (mCallG 1 0 (fun ds es => ds ++ es) (gExc "NoOrder" "at") (mCons (mVar 0) mNil) mNil) mNil))))))))) (tgName 1)) (sRet (mBin (dAddK kFz) (mVar 1) (mLst (mCons (mCallG 1 0 (fun ds es => ds ++ es) (gExc "NoPlace" "at") (mCons (mVar 0) mNil) mNil) (mCons (mCallG 1 0 (fun ds es => ds ++ es) (gExc "NoBack" "many") (mCons (mVar 0) mNil) mNil) (mCons (mCallG 1 0 (fun ds es => ds ++ es) (gExc "NoRow" "thing") (mCons (mVar 0) mNil) mNil) (mCons (mCallG 1 0 (fun ds es => ds ++ es) (gExc "TooMany" "many") (mCons (mVar 0) mNil) mNil) mNil)))))))))
def f__law_all : List D → M D := fnM 1 2 b__law_all
theorem fn__law_all {P : Program} {w : World} {K : PySem.W.Frag} {mg : Str → Option Value} {base : Heap} (Φ : Fs K mg) {fd : FuncData} (fD : FunD K "_law_all" "_law_all" (defArgs st__law_all) (defBody st__law_all) (defScope st__law_all) [] [] (He.ga K "_law_all") fd) : FnG P w K mg base (CXn P w) 3 (He.ga K "_law_all") fd ["_law_odd"] (spM K mg 1 f__law_all) := by
  have sc := sc__law_all
  refine fn_ok fD sc__law_all rfl rfl fun cdv A outer s H E hr tk hp => ?_
  exact (ss_cons (s_set (i := 1) sc.nd (se_lst (sa_cons (se_exc (clP_NoPlayers Φ) hr (by decide) tk (sc_some (sa_cons (se_var (i := 0)) sa_nil) sk_nil)) (sa_cons (se_exc (clP_NoVerdicts Φ) hr (by decide) tk (sc_some (sa_cons (se_var (i := 0)) sa_nil) sk_nil)) (sa_cons (se_exc (clP_NoPair Φ) hr (by decide) tk (sc_some (sa_cons (se_var (i := 0)) sa_nil) sk_nil)) (sa_cons (se_exc (clP_NoPairs Φ) hr (by decide) tk (sc_some (sa_cons (se_var (i := 0)) sa_nil) sk_nil)) (sa_cons (se_exc (clP_NoLot Φ) hr (by decide) tk (sc_some (sa_cons (se_var (i := 0)) sa_nil) sk_nil)) (sa_cons (se_exc (clP_NoTable Φ) hr (by decide) tk (sc_some (sa_cons (se_var (i := 0)) sa_nil) sk_nil)) (sa_cons (se_exc (clP_NoKinds Φ) hr (by decide) tk (sc_some (sa_cons (se_var (i := 0)) sa_nil) sk_nil)) sa_nil))))))))) (ss_cons (s_set (i := 1) sc.nd (se_bin op_addA (m_add newK_fz) (se_var (i := 1)) (se_lst (sa_cons (se_exc (clP_NoTruth Φ) hr (by decide) tk (sc_some (sa_cons (se_var (i := 0)) sa_nil) sk_nil)) (sa_cons (se_exc (clP_NoWord Φ) hr (by decide) tk (sc_some (sa_cons (se_var (i := 0)) sa_nil) sk_nil)) (sa_cons (se_exc (clP_NoText Φ) hr (by decide) tk (sc_some (sa_cons (se_var (i := 0)) sa_nil) sk_nil)) (sa_cons (se_exc (clP_NoPrices Φ) hr (by decide) tk (sc_some (sa_cons (se_var (i := 0)) sa_nil) sk_nil)) (sa_cons (se_exc (clP_NoPlayer Φ) hr (by decide) tk (sc_some (sa_cons (se_var (i := 0)) sa_nil) sk_nil)) (sa_cons (se_exc (clP_NoGap Φ) hr (by decide) tk (sc_some (sa_cons (se_var (i := 0)) sa_nil) sk_nil)) (sa_cons (se_exc (clP_NoOrder Φ) hr (by decide) tk (sc_some (sa_cons (se_var (i := 0)) sa_nil) sk_nil)) sa_nil)))))))))) (ss_one (s_ret (se_bin op_addA (m_add newK_fz) (se_var (i := 1)) (se_lst (sa_cons (se_exc (clP_NoPlace Φ) hr (by decide) tk (sc_some (sa_cons (se_var (i := 0)) sa_nil) sk_nil)) (sa_cons (se_exc (clP_NoBack Φ) hr (by decide) tk (sc_some (sa_cons (se_var (i := 0)) sa_nil) sk_nil)) (sa_cons (se_exc (clP_NoRow Φ) hr (by decide) tk (sc_some (sa_cons (se_var (i := 0)) sa_nil) sk_nil)) (sa_cons (se_exc (clP_TooMany Φ) hr (by decide) tk (sc_some (sa_cons (se_var (i := 0)) sa_nil) sk_nil)) sa_nil))))))))))
theorem ok__law_all {P : Program} {w : World} {K : PySem.W.Frag} {mg : Str → Option Value} {base : Heap} (Φ : Fs K mg) : ClG P w K mg base "_law_all" 3 f__law_all 1 [] gPos := by
  obtain ⟨fd, fD⟩ := Φ.d__law_all
  exact ⟨⟨_, fd, ["_law_odd"], ⟨fn__law_all Φ fD, ar_fnM⟩, Φ.g__law_all, fD.kp, BnM.pos (fD.bindsN fun _ _ _ _ _ _ us hl => match us, hl with | [_], _ => rfl) 1 rfl⟩⟩
theorem sc__law_bases : FnScope ["_law_e", "_law_found"] ["_law_e"] (defScope st__law_bases) := ⟨rfl, rfl, rfl, by decide +kernel, rfl, by decide +kernel, by decide +kernel⟩
def b__law_bases : MS := (sSeq (sAsg (mLst (mCons (mUn (dIsiX (clsA xrs) (fun c => nm_ValueError.contains c)) (mVar 0)) (mCons (mUn (dIsiX (clsA xrs) (fun c => nm_KeyError.contains c)) (mVar 0)) (mCons (mUn (dIsiX (clsA xrs) (fun c => nm_IndexError.contains c)) (mVar 0)) mNil)))) (tgName 1)) (sRet (mBin (dAddK kFz) (mVar 1) (mLst (mCons (mUn (dIsiX (clsA xrs) (fun c => nm_LookupError.contains c)) (mVar 0)) (mCons (mUn (dIsiX (clsA xrs) (fun c => nm_OverflowError.contains c)) (mVar 0)) mNil))))))
def f__law_bases : List D → M D := fnM 1 2 b__law_bases
theorem fn__law_bases {P : Program} {w : World} {K : PySem.W.Frag} {mg : Str → Option Value} {base : Heap} (Φ : Fs K mg) {fd : FuncData} (fD : FunD K "_law_bases" "_law_bases" (defArgs st__law_bases) (defBody st__law_bases) (defScope st__law_bases) [] [] (He.ga K "_law_bases") fd) : FnG P w K mg base (CXn P w) 1 (He.ga K "_law_bases") fd ["_law_e"] (spM K mg 1 f__law_bases) := by
  have sc := sc__law_bases
  refine fn_ok fD sc__law_bases rfl rfl fun cdv A outer s H E hr tk hp => ?_
  exact (ss_cons (s_set (i := 1) sc.nd (se_lst (sa_cons (se_isiXB (se_var (i := 0)) Φ.f_isinstance Φ.f_ValueError (by decide +kernel) (xb_of Φ.xf (b := ("ValueError", nm_ValueError)) (List.mem_of_getElem? (i := 0) rfl))) (sa_cons (se_isiXB (se_var (i := 0)) Φ.f_isinstance Φ.f_KeyError (by decide +kernel) (xb_of Φ.xf (b := ("KeyError", nm_KeyError)) (List.mem_of_getElem? (i := 1) rfl))) (sa_cons (se_isiXB (se_var (i := 0)) Φ.f_isinstance Φ.f_IndexError (by decide +kernel) (xb_of Φ.xf (b := ("IndexError", nm_IndexError)) (List.mem_of_getElem? (i := 2) rfl))) sa_nil))))) (ss_one (s_ret (se_bin op_addA (m_add newK_fz) (se_var (i := 1)) (se_lst (sa_cons (se_isiXB (se_var (i := 0)) Φ.f_isinstance Φ.f_LookupError (by decide +kernel) (xb_of Φ.xf (b := ("LookupError", nm_LookupError)) (List.mem_of_getElem? (i := 3) rfl))) (sa_cons (se_isiXB (se_var (i := 0)) Φ.f_isinstance Φ.f_OverflowError (by decide +kernel) (xb_of Φ.xf (b := ("OverflowError", nm_OverflowError)) (List.mem_of_getElem? (i := 4) rfl))) sa_nil)))))))
theorem ok__law_bases {P : Program} {w : World} {K : PySem.W.Frag} {mg : Str → Option Value} {base : Heap} (Φ : Fs K mg) : ClG P w K mg base "_law_bases" 1 f__law_bases 1 [] gPos := by
  obtain ⟨fd, fD⟩ := Φ.d__law_bases
  exact ⟨⟨_, fd, ["_law_e"], ⟨fn__law_bases Φ fD, ar_fnM⟩, Φ.g__law_bases, fD.kp, BnM.pos (fD.bindsN fun _ _ _ _ _ _ us hl => match us, hl with | [_], _ => rfl) 1 rfl⟩⟩
theorem sc__law_by_names : FnScope ["_law_odd", "_law_found"] ["_law_odd"] (defScope st__law_by_names) := ⟨rfl, rfl, rfl, by decide +kernel, rfl, by decide +kernel, by decide +kernel⟩
def b__law_by_names : MS := (sSeq (sAsg (mLst (mCons (mCallG 0 1 (fun ds es => ds ++ es) (gExc "NoPlayers" "thing") mNil (mCons (mVar 0) mNil)) (mCons (mCallG 0 1 (fun ds es => ds ++ es) (gExc "NoVerdicts" "thing") mNil (mCons (mVar 0) mNil)) (mCons (mCallG 0 1 (fun ds es => ds ++ es) (gExc "NoPair" "thing") mNil (mCons (mVar 0) mNil)) (mCons (mCallG 0 1 (fun ds es => ds ++ es) (gExc "NoPairs" "thing") mNil (mCons (mVar 0) mNil)) (mCons (mCallG 0 1 (fun ds es => ds ++ es) (gExc "NoLot" "thing") mNil (mCons (mVar 0) mNil)) mNil)))))) (tgName 1)) (sSeq (sAsg (mBin (dAddK kFz) (mVar 1) (mLst (mCons (mCallG 0 1 (fun ds es => ds ++ es) (gExc "NoTable" "thing") mNil (mCons (mVar 0) mNil)) (mCons (mCallG 0 1 (fun ds es => ds ++ es) (gExc "NoKinds" "thing") mNil (mCons (mVar 0) mNil)) (mCons (mCallG 0 1 (fun ds es => ds ++ es) (gExc "NoTruth" "thing") mNil (mCons (mVar 0) mNil)) (mCons (mCallG 0 1 (fun ds es => ds ++ es) (gExc "NoWord" "thing") mNil (mCons (mVar 0) mNil)) (mCons (mCallG 0 1 (fun ds es => ds ++ es) (gExc "NoText" "at") mNil (mCons (mVar 0) mNil)) mNil))))))) (tgName 1)) (sSeq (sAsg (mBin (dAddK kFz) (mVar 1) (mLst (mCons (mCallG 0 1 (fun ds es => ds ++ es) (gExc "NoPrices" "at") mNil (mCons (mVar 0) mNil)) (mCons (mCallG 0 1 (fun ds es => ds ++ es) (gExc "NoPlayer" "player") mNil (mCons (mVar 0) mNil)) (mCons (mCallG 0 1 (fun ds es => ds ++ es) (gExc "NoGap" "gap") mNil (mCons (mVar 0) mNil)) (mCons (mCallG 0 1 (fun ds es => ds ++ es) (gExc "NoOrder" "at") mNil (mCons (mVar 0) mNil)) (mCons (mCallG 0 1 (fun ds es => ds ++ es) (gExc "NoPlace" "at") mNil (mCons (mVar 0) mNil)) mNil))))))) (tgName 1)) (sRet (mBin (dAddK kFz) (mVar 1) (mLst (mCons (mCallG 0 1 (fun ds es => ds ++ es) (gExc "NoBack" "many") mNil (mCons (mVar 0) mNil)) (mCons (mCallG 0 1 (fun ds es => ds ++ es) (gExc "NoRow" "thing") mNil (mCons (mVar 0) mNil)) (mCons (mCallG 0 1 (fun ds es => ds ++ es) (gExc "TooMany" "many") mNil (mCons (mVar 0) mNil)) mNil)))))))))
def f__law_by_names : List D → M D := fnM 1 2 b__law_by_names
theorem fn__law_by_names {P : Program} {w : World} {K : PySem.W.Frag} {mg : Str → Option Value} {base : Heap} (Φ : Fs K mg) {fd : FuncData} (fD : FunD K "_law_by_names" "_law_by_names" (defArgs st__law_by_names) (defBody st__law_by_names) (defScope st__law_by_names) [] [] (He.ga K "_law_by_names") fd) : FnG P w K mg base (CXn P w) 3 (He.ga K "_law_by_names") fd ["_law_odd"] (spM K mg 1 f__law_by_names) := by
  have sc := sc__law_by_names
  refine fn_ok fD sc__law_by_names rfl rfl fun cdv A outer s H E hr tk hp => ?_
  exact (ss_cons (s_set (i := 1) sc.nd (se_lst (sa_cons (se_exc (clK_NoPlayers Φ) hr (by decide) tk (sc_none (sk_cons (se_var (i := 0)) sk_nil))) (sa_cons (se_exc (clK_NoVerdicts Φ) hr (by decide) tk (sc_none (sk_cons (se_var (i := 0)) sk_nil))) (sa_cons (se_exc (clK_NoPair Φ) hr (by decide) tk (sc_none (sk_cons (se_var (i := 0)) sk_nil))) (sa_cons (se_exc (clK_NoPairs Φ) hr (by decide) tk (sc_none (sk_cons (se_var (i := 0)) sk_nil))) (sa_cons (se_exc (clK_NoLot Φ) hr (by decide) tk (sc_none (sk_cons (se_var (i := 0)) sk_nil))) sa_nil))))))) (ss_cons (s_set (i := 1) sc.nd (se_bin op_addA (m_add newK_fz) (se_var (i := 1)) (se_lst (sa_cons (se_exc (clK_NoTable Φ) hr (by decide) tk (sc_none (sk_cons (se_var (i := 0)) sk_nil))) (sa_cons (se_exc (clK_NoKinds Φ) hr (by decide) tk (sc_none (sk_cons (se_var (i := 0)) sk_nil))) (sa_cons (se_exc (clK_NoTruth Φ) hr (by decide) tk (sc_none (sk_cons (se_var (i := 0)) sk_nil))) (sa_cons (se_exc (clK_NoWord Φ) hr (by decide) tk (sc_none (sk_cons (se_var (i := 0)) sk_nil))) (sa_cons (se_exc (clK_NoText Φ) hr (by decide) tk (sc_none (sk_cons (se_var (i := 0)) sk_nil))) sa_nil)))))))) (ss_cons (s_set (i := 1) sc.nd (se_bin op_addA (m_add newK_fz) (se_var (i := 1)) (se_lst (sa_cons (se_exc (clK_NoPrices Φ) hr (by decide) tk (sc_none (sk_cons (se_var (i := 0)) sk_nil))) (sa_cons (se_exc (clK_NoPlayer Φ) hr (by decide) tk (sc_none (sk_cons (se_var (i := 0)) sk_nil))) (sa_cons (se_exc (clK_NoGap Φ) hr (by decide) tk (sc_none (sk_cons (se_var (i := 0)) sk_nil))) (sa_cons (se_exc (clK_NoOrder Φ) hr (by decide) tk (sc_none (sk_cons (se_var (i := 0)) sk_nil))) (sa_cons (se_exc (clK_NoPlace Φ) hr (by decide) tk (sc_none (sk_cons (se_var (i := 0)) sk_nil))) sa_nil)))))))) (ss_one (s_ret (se_bin op_addA (m_add newK_fz) (se_var (i := 1)) (se_lst (sa_cons (se_exc (clK_NoBack Φ) hr (by decide) tk (sc_none (sk_cons (se_var (i := 0)) sk_nil))) (sa_cons (se_exc (clK_NoRow Φ) hr (by decide) tk (sc_none (sk_cons (se_var (i := 0)) sk_nil))) (sa_cons (se_exc (clK_TooMany Φ) hr (by decide) tk (sc_none (sk_cons (se_var (i := 0)) sk_nil))) sa_nil))))))))))
theorem ok__law_by_names {P : Program} {w : World} {K : PySem.W.Frag} {mg : Str → Option Value} {base : Heap} (Φ : Fs K mg) : ClG P w K mg base "_law_by_names" 3 f__law_by_names 1 [] gPos := by
  obtain ⟨fd, fD⟩ := Φ.d__law_by_names
  exact ⟨⟨_, fd, ["_law_odd"], ⟨fn__law_by_names Φ fD, ar_fnM⟩, Φ.g__law_by_names, fD.kp, BnM.pos (fD.bindsN fun _ _ _ _ _ _ us hl => match us, hl with | [_], _ => rfl) 1 rfl⟩⟩
theorem sc__law_due : FnScope ["_law_spot"] ["_law_spot"] (defScope st__law_due) := ⟨rfl, rfl, rfl, by decide +kernel, rfl, by decide +kernel, by decide +kernel⟩
def b__law_due : MS := (sSeq (sIf (bVal (mBin dLt (mVar 0) (mC (.int 11)))) (sRet (mLst (mCons (mC (.bl true)) (mCons (mC (.bl false)) (mCons (mC (.bl false)) (mCons (mC (.bl false)) (mCons (mC (.bl false)) mNil))))))) sNx) (sSeq (sIf (bVal (mBin dEqA (mVar 0) (mC (.int 11)))) (sRet (mLst (mCons (mC (.bl false)) (mCons (mC (.bl true)) (mCons (mC (.bl false)) (mCons (mC (.bl true)) (mCons (mC (.bl false)) mNil))))))) sNx) (sSeq (sIf (bVal (mBin dLt (mVar 0) (mC (.int 15)))) (sRet (mLst (mCons (mC (.bl false)) (mCons (mC (.bl false)) (mCons (mC (.bl true)) (mCons (mC (.bl true)) (mCons (mC (.bl false)) mNil))))))) sNx) (sRet (mIf (bVal (mBin dLt (mVar 0) (mC (.int 17)))) (mLst (mCons (mC (.bl false)) (mCons (mC (.bl false)) (mCons (mC (.bl false)) (mCons (mC (.bl true)) (mCons (mC (.bl false)) mNil)))))) (mLst (mCons (mC (.bl false)) (mCons (mC (.bl false)) (mCons (mC (.bl false)) (mCons (mC (.bl false)) (mCons (mC (.bl true)) mNil)))))))))))
def f__law_due : List D → M D := fnM 1 1 b__law_due
theorem fn__law_due {P : Program} {w : World} {K : PySem.W.Frag} {mg : Str → Option Value} {base : Heap} (Φ : Fs K mg) {fd : FuncData} (fD : FunD K "_law_due" "_law_due" (defArgs st__law_due) (defBody st__law_due) (defScope st__law_due) [] [] (He.ga K "_law_due") fd) : FnG P w K mg base (CXn P w) 1 (He.ga K "_law_due") fd ["_law_spot"] (spM K mg 1 f__law_due) := by
  have sc := sc__law_due
  refine fn_ok fD sc__law_due rfl rfl fun cdv A outer s H E hr tk hp => ?_
  exact (ss_cons (s_if (sb_cmpR op_lt m_lt (se_var (i := 0)) se_int (by first | exact nobehind _ (by decide) (by decide) | rfl)) (ss_one (s_ret (se_lst (sa_cons se_bl (sa_cons se_bl (sa_cons se_bl (sa_cons se_bl (sa_cons se_bl sa_nil)))))))) ss_nil) (ss_cons (s_if (sb_cmpR (op_eqA (un64 hr)) m_eqA (se_var (i := 0)) se_int (by first | exact nobehind _ (by decide) (by decide) | rfl)) (ss_one (s_ret (se_lst (sa_cons se_bl (sa_cons se_bl (sa_cons se_bl (sa_cons se_bl (sa_cons se_bl sa_nil)))))))) ss_nil) (ss_cons (s_if (sb_cmpR op_lt m_lt (se_var (i := 0)) se_int (by first | exact nobehind _ (by decide) (by decide) | rfl)) (ss_one (s_ret (se_lst (sa_cons se_bl (sa_cons se_bl (sa_cons se_bl (sa_cons se_bl (sa_cons se_bl sa_nil)))))))) ss_nil) (ss_one (s_ret (se_if (sb_cmpR op_lt m_lt (se_var (i := 0)) se_int (by first | exact nobehind _ (by decide) (by decide) | rfl)) (se_lst (sa_cons se_bl (sa_cons se_bl (sa_cons se_bl (sa_cons se_bl (sa_cons se_bl sa_nil)))))) (se_lst (sa_cons se_bl (sa_cons se_bl (sa_cons se_bl (sa_cons se_bl (sa_cons se_bl sa_nil))))))))))))
theorem ok__law_due {P : Program} {w : World} {K : PySem.W.Frag} {mg : Str → Option Value} {base : Heap} (Φ : Fs K mg) : ClG P w K mg base "_law_due" 1 f__law_due 1 [] gPos := by
  obtain ⟨fd, fD⟩ := Φ.d__law_due
  exact ⟨⟨_, fd, ["_law_spot"], ⟨fn__law_due Φ fD, ar_fnM⟩, Φ.g__law_due, fD.kp, BnM.pos (fD.bindsN fun _ _ _ _ _ _ us hl => match us, hl with | [_], _ => rfl) 1 rfl⟩⟩
theorem sc__law_fields : FnScope ["_law_found", "_law_told", "_law_spot"] ["_law_found"] (defScope st__law_fields) := ⟨rfl, rfl, rfl, by decide +kernel, rfl, by decide +kernel, by decide +kernel⟩
def b__law_fields : MS := (sSeq (sAsg (mBin (dAddK kFz) (mComp kFz (CL.iRng1 (mCons (mC (.int 9)) mNil)) (tgName 2) bYes (mUn (dFldX (clsF xrs "thing") "thing") (mBin dIdx (mVar 0) (mVar 2))) [2]) (mLst (mCons (mUn (dFldX (clsF xrs "at") "at") (mBin dIdx (mVar 0) (mC (.int 9)))) (mCons (mUn (dFldX (clsF xrs "at") "at") (mBin dIdx (mVar 0) (mC (.int 10)))) (mCons (mUn (dFldX (clsF xrs "player") "player") (mBin dIdx (mVar 0) (mC (.int 11)))) (mCons (mUn (dFldX (clsF xrs "gap") "gap") (mBin dIdx (mVar 0) (mC (.int 12)))) mNil)))))) (tgName 1)) (sRet (mBin (dAddK kFz) (mVar 1) (mLst (mCons (mUn (dFldX (clsF xrs "at") "at") (mBin dIdx (mVar 0) (mC (.int 13)))) (mCons (mUn (dFldX (clsF xrs "at") "at") (mBin dIdx (mVar 0) (mC (.int 14)))) (mCons (mUn (dFldX (clsF xrs "many") "many") (mBin dIdx (mVar 0) (mC (.int 15)))) (mCons (mUn (dFldX (clsF xrs "thing") "thing") (mBin dIdx (mVar 0) (mC (.int 16)))) (mCons (mUn (dFldX (clsF xrs "many") "many") (mBin dIdx (mVar 0) (mC (.int 17)))) mNil)))))))))
def f__law_fields : List D → M D := fnM 1 3 b__law_fields
theorem fn__law_fields {P : Program} {w : World} {K : PySem.W.Frag} {mg : Str → Option Value} {base : Heap} (Φ : Fs K mg) {fd : FuncData} (fD : FunD K "_law_fields" "_law_fields" (defArgs st__law_fields) (defBody st__law_fields) (defScope st__law_fields) [] [] (He.ga K "_law_fields") fd) : FnG P w K mg base (CXn P w) 1 (He.ga K "_law_fields") fd ["_law_found"] (spM K mg 1 f__law_fields) := by
  have sc := sc__law_fields
  refine fn_ok fD sc__law_fields rfl rfl fun cdv A outer s H E hr tk hp => ?_
  exact (ss_cons (s_set (i := 1) sc.nd (se_bin op_addA (m_add newK_fz) (se_comp (own := [("_law_spot", 2)]) kFz_ok rfl sc.nd (si_range1 Φ.f_range (sa_cons se_int sa_nil)) (blkOk_by (by kernel_rfl)) (by decide) (fun _ _ _ _ _ => (sg_name (i := 2) sc.nd)) (fun _ _ _ _ _ => sts_nil) (fun _ _ _ _ _ => (se_fldX (xa_of Φ.xf "thing") (se_idx hr (se_var (i := 0)) (se_var (i := 2)))))) (se_lst (sa_cons (se_fldX (xa_of Φ.xf "at") (se_idx hr (se_var (i := 0)) se_int)) (sa_cons (se_fldX (xa_of Φ.xf "at") (se_idx hr (se_var (i := 0)) se_int)) (sa_cons (se_fldX (xa_of Φ.xf "player") (se_idx hr (se_var (i := 0)) se_int)) (sa_cons (se_fldX (xa_of Φ.xf "gap") (se_idx hr (se_var (i := 0)) se_int)) sa_nil))))))) (ss_one (s_ret (se_bin op_addA (m_add newK_fz) (se_var (i := 1)) (se_lst (sa_cons (se_fldX (xa_of Φ.xf "at") (se_idx hr (se_var (i := 0)) se_int)) (sa_cons (se_fldX (xa_of Φ.xf "at") (se_idx hr (se_var (i := 0)) se_int)) (sa_cons (se_fldX (xa_of Φ.xf "many") (se_idx hr (se_var (i := 0)) se_int)) (sa_cons (se_fldX (xa_of Φ.xf "thing") (se_idx hr (se_var (i := 0)) se_int)) (sa_cons (se_fldX (xa_of Φ.xf "many") (se_idx hr (se_var (i := 0)) se_int)) sa_nil))))))))))
theorem ok__law_fields {P : Program} {w : World} {K : PySem.W.Frag} {mg : Str → Option Value} {base : Heap} (Φ : Fs K mg) : ClG P w K mg base "_law_fields" 1 f__law_fields 1 [] gPos := by
  obtain ⟨fd, fD⟩ := Φ.d__law_fields
  exact ⟨⟨_, fd, ["_law_found"], ⟨fn__law_fields Φ fD, ar_fnM⟩, Φ.g__law_fields, fD.kp, BnM.pos (fD.bindsN fun _ _ _ _ _ _ us hl => match us, hl with | [_], _ => rfl) 1 rfl⟩⟩
theorem sc__law_kinds : FnScope ["_law_e", "_law_found"] ["_law_e"] (defScope st__law_kinds) := ⟨rfl, rfl, rfl, by decide +kernel, rfl, by decide +kernel, by decide +kernel⟩
def b__law_kinds : MS := (sSeq (sAsg (mLst (mCons (mUn (dIsiX (clsA xrs) (fun c => decide (c = "NoPlayers"))) (mVar 0)) (mCons (mUn (dIsiX (clsA xrs) (fun c => decide (c = "NoVerdicts"))) (mVar 0)) (mCons (mUn (dIsiX (clsA xrs) (fun c => decide (c = "NoPair"))) (mVar 0)) (mCons (mUn (dIsiX (clsA xrs) (fun c => decide (c = "NoPairs"))) (mVar 0)) mNil))))) (tgName 1)) (sSeq (sAsg (mBin (dAddK kFz) (mVar 1) (mLst (mCons (mUn (dIsiX (clsA xrs) (fun c => decide (c = "NoLot"))) (mVar 0)) (mCons (mUn (dIsiX (clsA xrs) (fun c => decide (c = "NoTable"))) (mVar 0)) (mCons (mUn (dIsiX (clsA xrs) (fun c => decide (c = "NoKinds"))) (mVar 0)) (mCons (mUn (dIsiX (clsA xrs) (fun c => decide (c = "NoTruth"))) (mVar 0)) mNil)))))) (tgName 1)) (sSeq (sAsg (mBin (dAddK kFz) (mVar 1) (mLst (mCons (mUn (dIsiX (clsA xrs) (fun c => decide (c = "NoWord"))) (mVar 0)) (mCons (mUn (dIsiX (clsA xrs) (fun c => decide (c = "NoText"))) (mVar 0)) (mCons (mUn (dIsiX (clsA xrs) (fun c => decide (c = "NoPrices"))) (mVar 0)) (mCons (mUn (dIsiX (clsA xrs) (fun c => decide (c = "NoPlayer"))) (mVar 0)) mNil)))))) (tgName 1)) (sSeq (sAsg (mBin (dAddK kFz) (mVar 1) (mLst (mCons (mUn (dIsiX (clsA xrs) (fun c => decide (c = "NoGap"))) (mVar 0)) (mCons (mUn (dIsiX (clsA xrs) (fun c => decide (c = "NoOrder"))) (mVar 0)) (mCons (mUn (dIsiX (clsA xrs) (fun c => decide (c = "NoPlace"))) (mVar 0)) (mCons (mUn (dIsiX (clsA xrs) (fun c => decide (c = "NoBack"))) (mVar 0)) mNil)))))) (tgName 1)) (sRet (mBin (dAddK kFz) (mVar 1) (mLst (mCons (mUn (dIsiX (clsA xrs) (fun c => decide (c = "NoRow"))) (mVar 0)) (mCons (mUn (dIsiX (clsA xrs) (fun c => decide (c = "TooMany"))) (mVar 0)) mNil)))))))))
def f__law_kinds : List D → M D := fnM 1 2 b__law_kinds
theorem fn__law_kinds {P : Program} {w : World} {K : PySem.W.Frag} {mg : Str → Option Value} {base : Heap} (Φ : Fs K mg) {fd : FuncData} (fD : FunD K "_law_kinds" "_law_kinds" (defArgs st__law_kinds) (defBody st__law_kinds) (defScope st__law_kinds) [] [] (He.ga K "_law_kinds") fd) : FnG P w K mg base (CXn P w) 1 (He.ga K "_law_kinds") fd ["_law_e"] (spM K mg 1 f__law_kinds) := by
  have sc := sc__law_kinds
  refine fn_ok fD sc__law_kinds rfl rfl fun cdv A outer s H E hr tk hp => ?_
  exact (ss_cons (s_set (i := 1) sc.nd (se_lst (sa_cons (se_isiXO (se_var (i := 0)) Φ.f_isinstance (Φ.xf.xg xr_NoPlayers (List.mem_of_getElem? (i := 0) rfl)) (xi_of Φ.xf (y := xr_NoPlayers) (List.mem_of_getElem? (i := 0) rfl))) (sa_cons (se_isiXO (se_var (i := 0)) Φ.f_isinstance (Φ.xf.xg xr_NoVerdicts (List.mem_of_getElem? (i := 1) rfl)) (xi_of Φ.xf (y := xr_NoVerdicts) (List.mem_of_getElem? (i := 1) rfl))) (sa_cons (se_isiXO (se_var (i := 0)) Φ.f_isinstance (Φ.xf.xg xr_NoPair (List.mem_of_getElem? (i := 2) rfl)) (xi_of Φ.xf (y := xr_NoPair) (List.mem_of_getElem? (i := 2) rfl))) (sa_cons (se_isiXO (se_var (i := 0)) Φ.f_isinstance (Φ.xf.xg xr_NoPairs (List.mem_of_getElem? (i := 3) rfl)) (xi_of Φ.xf (y := xr_NoPairs) (List.mem_of_getElem? (i := 3) rfl))) sa_nil)))))) (ss_cons (s_set (i := 1) sc.nd (se_bin op_addA (m_add newK_fz) (se_var (i := 1)) (se_lst (sa_cons (se_isiXO (se_var (i := 0)) Φ.f_isinstance (Φ.xf.xg xr_NoLot (List.mem_of_getElem? (i := 4) rfl)) (xi_of Φ.xf (y := xr_NoLot) (List.mem_of_getElem? (i := 4) rfl))) (sa_cons (se_isiXO (se_var (i := 0)) Φ.f_isinstance (Φ.xf.xg xr_NoTable (List.mem_of_getElem? (i := 5) rfl)) (xi_of Φ.xf (y := xr_NoTable) (List.mem_of_getElem? (i := 5) rfl))) (sa_cons (se_isiXO (se_var (i := 0)) Φ.f_isinstance (Φ.xf.xg xr_NoKinds (List.mem_of_getElem? (i := 6) rfl)) (xi_of Φ.xf (y := xr_NoKinds) (List.mem_of_getElem? (i := 6) rfl))) (sa_cons (se_isiXO (se_var (i := 0)) Φ.f_isinstance (Φ.xf.xg xr_NoTruth (List.mem_of_getElem? (i := 7) rfl)) (xi_of Φ.xf (y := xr_NoTruth) (List.mem_of_getElem? (i := 7) rfl))) sa_nil))))))) (ss_cons (s_set (i := 1) sc.nd (se_bin op_addA (m_add newK_fz) (se_var (i := 1)) (se_lst (sa_cons (se_isiXO (se_var (i := 0)) Φ.f_isinstance (Φ.xf.xg xr_NoWord (List.mem_of_getElem? (i := 8) rfl)) (xi_of Φ.xf (y := xr_NoWord) (List.mem_of_getElem? (i := 8) rfl))) (sa_cons (se_isiXO (se_var (i := 0)) Φ.f_isinstance (Φ.xf.xg xr_NoText (List.mem_of_getElem? (i := 9) rfl)) (xi_of Φ.xf (y := xr_NoText) (List.mem_of_getElem? (i := 9) rfl))) (sa_cons (se_isiXO (se_var (i := 0)) Φ.f_isinstance (Φ.xf.xg xr_NoPrices (List.mem_of_getElem? (i := 10) rfl)) (xi_of Φ.xf (y := xr_NoPrices) (List.mem_of_getElem? (i := 10) rfl))) (sa_cons (se_isiXO (se_var (i := 0)) Φ.f_isinstance (Φ.xf.xg xr_NoPlayer (List.mem_of_getElem? (i := 11) rfl)) (xi_of Φ.xf (y := xr_NoPlayer) (List.mem_of_getElem? (i := 11) rfl))) sa_nil))))))) (ss_cons (s_set (i := 1) sc.nd (se_bin op_addA (m_add newK_fz) (se_var (i := 1)) (se_lst (sa_cons (se_isiXO (se_var (i := 0)) Φ.f_isinstance (Φ.xf.xg xr_NoGap (List.mem_of_getElem? (i := 12) rfl)) (xi_of Φ.xf (y := xr_NoGap) (List.mem_of_getElem? (i := 12) rfl))) (sa_cons (se_isiXO (se_var (i := 0)) Φ.f_isinstance (Φ.xf.xg xr_NoOrder (List.mem_of_getElem? (i := 13) rfl)) (xi_of Φ.xf (y := xr_NoOrder) (List.mem_of_getElem? (i := 13) rfl))) (sa_cons (se_isiXO (se_var (i := 0)) Φ.f_isinstance (Φ.xf.xg xr_NoPlace (List.mem_of_getElem? (i := 14) rfl)) (xi_of Φ.xf (y := xr_NoPlace) (List.mem_of_getElem? (i := 14) rfl))) (sa_cons (se_isiXO (se_var (i := 0)) Φ.f_isinstance (Φ.xf.xg xr_NoBack (List.mem_of_getElem? (i := 15) rfl)) (xi_of Φ.xf (y := xr_NoBack) (List.mem_of_getElem? (i := 15) rfl))) sa_nil))))))) (ss_one (s_ret (se_bin op_addA (m_add newK_fz) (se_var (i := 1)) (se_lst (sa_cons (se_isiXO (se_var (i := 0)) Φ.f_isinstance (Φ.xf.xg xr_NoRow (List.mem_of_getElem? (i := 16) rfl)) (xi_of Φ.xf (y := xr_NoRow) (List.mem_of_getElem? (i := 16) rfl))) (sa_cons (se_isiXO (se_var (i := 0)) Φ.f_isinstance (Φ.xf.xg xr_TooMany (List.mem_of_getElem? (i := 17) rfl)) (xi_of Φ.xf (y := xr_TooMany) (List.mem_of_getElem? (i := 17) rfl))) sa_nil))))))))))
theorem ok__law_kinds {P : Program} {w : World} {K : PySem.W.Frag} {mg : Str → Option Value} {base : Heap} (Φ : Fs K mg) : ClG P w K mg base "_law_kinds" 1 f__law_kinds 1 [] gPos := by
  obtain ⟨fd, fD⟩ := Φ.d__law_kinds
  exact ⟨⟨_, fd, ["_law_e"], ⟨fn__law_kinds Φ fD, ar_fnM⟩, Φ.g__law_kinds, fD.kp, BnM.pos (fD.bindsN fun _ _ _ _ _ _ us hl => match us, hl with | [_], _ => rfl) 1 rfl⟩⟩
theorem sc_law : FnScope ["_law_script", "_law_k", "_law_cell", "_law_odd", "_law_found", "_law_spot", "_law_e", "_law_one"] ["_law_script"] (defScope st_law) := ⟨rfl, rfl, rfl, by decide +kernel, rfl, by decide +kernel, by decide +kernel⟩
def b_law : MS := (sSeq (sFor (CL.iRng1 (mCons (mCall dMax2 (mCons (mC (.int 1)) (mCons (mCall dMin2 (mCons (mCall dLen (mCons (mVar 0) mNil)) (mCons (mC (.int 9)) mNil))) mNil))) mNil)) (tgName 1) (sSeq (sAsg (mBin dIdx (mBin (dAddK kFz) (mSl kFz (mVar 0) (oSome (mVar 1)) (oSome (mBin (dAddK kFz) (mVar 1) (mC (.int 1))))) (mLst (mCons (mC (.int 0)) mNil))) (mC (.int 0))) (tgName 2)) (sFor (iSeq (mLst (mCons (mBin dMod (mVar 2) (mBin dPow (mC (.int 10)) (mC (.int 30)))) (mCons (mC .non) (mCons (mTup (mCons (mC (.str "a")) (mCons (mBin dMod (mVar 2) (mC (.int 7))) mNil))) (mCons (mC (.str "")) (mCons (mC (.str "text")) (mCons (mLst mNil) (mCons (mLst (mCons (mBin dMod (mVar 2) (mC (.int 5))) mNil)) (mCons (mDFz false) (mCons (mC (.bl true)) mNil))))))))))) (tgName 3) (sFor (iSeq (mLst (mCons (mCallG 1 0 gPos f__law_all (mCons (mVar 3) mNil) mNil) (mCons (mCallG 1 0 gPos f__law_by_names (mCons (mVar 3) mNil) mNil) mNil)))) (tgName 4) (sSeq (sFor (iEnumM (mCons (mVar 4) mNil)) (tgTup [5, 6]) (sIf (bOr (bVal (mBin dNeA (mCallG 1 0 gPos f__law_kinds (mCons (mVar 6) mNil) mNil) (mComp kFz (CL.iRng1 (mCons (mC (.int 18)) mNil)) (tgName 7) bYes (mBin dEqA (mVar 5) (mVar 7)) [7]))) (bVal (mBin dNeA (mCallG 1 0 gPos f__law_bases (mCons (mVar 6) mNil) mNil) (mCallG 1 0 gPos f__law_due (mCons (mVar 5) mNil) mNil)))) (sRet (mC (.bl false))) sNx)) (sIf (bVal (mBin dNeA (mCall dRepr (mCons (mCallG 1 0 gPos f__law_fields (mCons (mVar 4) mNil) mNil) mNil)) (mCall dRepr (mCons (mBin (dRep kFz) (mCel (mCons (mVar 3) mNil)) (mC (.int 18))) mNil)))) (sRet (mC (.bl false))) sNx)))))) (sRet (mC (.bl true))))
def f_law : List D → M D := fnM 1 8 b_law
theorem fn_law {P : Program} {w : World} {K : PySem.W.Frag} {mg : Str → Option Value} {base : Heap} (Φ : Fs K mg) {fd : FuncData} (fD : FunD K "law" "law" (defArgs st_law) (defBody st_law) (defScope st_law) [] [] (He.ga K "law") fd) : FnG P w K mg base (CXn P w) 4 (He.ga K "law") fd ["_law_script"] (spM K mg 1 f_law) := by
  have sc := sc_law
  refine fn_ok fD sc_law rfl rfl fun cdv A outer s H E hr tk hp => ?_
  exact (ss_cons (s_for hp rfl (si_range1 Φ.f_range (sa_cons (se_callB (call_max2 rfl) m_max2 rfl Φ.f_max boot_max (sa_cons se_int (sa_cons (se_callB (call_min2 rfl) m_min2 rfl Φ.f_min boot_min (sa_cons (se_callB call_lenAll m_len rfl Φ.f_len boot_len (sa_cons (se_var (i := 0)) sa_nil)) (sa_cons se_int sa_nil))) sa_nil))) sa_nil)) (sg_name (i := 1) sc.nd) (ss_cons (s_set (i := 2) sc.nd (se_idx hr (se_bin op_addA (m_add newK_fz) (se_slice newK_fz (se_var (i := 0)) (so_some (se_var (i := 1))) (so_some (se_bin op_addA (m_add newK_fz) (se_var (i := 1)) se_int))) (se_lst (sa_cons se_int sa_nil))) se_int)) (ss_one (s_for hp rfl (si_seq (se_lst (sa_cons (se_bin op_mod m_mod (se_var (i := 2)) (se_bin op_pow m_pow se_int se_int)) (sa_cons se_non (sa_cons (se_tup (sa_cons se_str (sa_cons (se_bin op_mod m_mod (se_var (i := 2)) se_int) sa_nil))) (sa_cons se_str (sa_cons se_str (sa_cons (se_lst sa_nil) (sa_cons (se_lst (sa_cons (se_bin op_mod m_mod (se_var (i := 2)) se_int) sa_nil)) (sa_cons (se_dfz (t := false)) (sa_cons se_bl sa_nil))))))))))) (sg_name (i := 3) sc.nd) (ss_one (s_for hp rfl (si_seq (se_lst (sa_cons (se_fnG (ok__law_all Φ) hr (by decide) tk (sc_some (sa_cons (se_var (i := 3)) sa_nil) sk_nil)) (sa_cons (se_fnG (ok__law_by_names Φ) hr (by decide) tk (sc_some (sa_cons (se_var (i := 3)) sa_nil) sk_nil)) sa_nil)))) (sg_name (i := 4) sc.nd) (ss_cons (s_for hp rfl (si_enum Φ.f_enumerate (sa_cons (se_var (i := 4)) sa_nil)) (sg_tup rfl (sgs_cons (i := 5) sc.nd (sgs_cons (i := 6) sc.nd sgs_nil))) (ss_one (s_if (PW.pt (sw_or (sb_cmpR (op_neA (un64 hr)) m_neA (se_fnG (ok__law_kinds Φ) hr (by decide) tk (sc_some (sa_cons (se_var (i := 6)) sa_nil) sk_nil)) (se_comp (own := [("_law_one", 7)]) kFz_ok rfl sc.nd (si_range1 Φ.f_range (sa_cons se_int sa_nil)) (blkOk_by (by kernel_rfl)) (by decide) (fun _ _ _ _ _ => (sg_name (i := 7) sc.nd)) (fun _ _ _ _ _ => sts_nil) (fun _ _ _ _ _ => (se_cmpR (op_eqA (un64 hr)) m_eqA (se_var (i := 5)) (se_var (i := 7)) (by first | exact nobehind _ (by decide) (by decide) | rfl)))) (by first | exact nobehind _ (by decide) (by decide) | rfl)) (sw_or1 (sb_cmpR (op_neA (un64 hr)) m_neA (se_fnG (ok__law_bases Φ) hr (by decide) tk (sc_some (sa_cons (se_var (i := 6)) sa_nil) sk_nil)) (se_fnG (ok__law_due Φ) hr (by decide) tk (sc_some (sa_cons (se_var (i := 5)) sa_nil) sk_nil)) (by first | exact nobehind _ (by decide) (by decide) | rfl))))) (ss_one (s_ret se_bl)) ss_nil))) (ss_one (s_if (sb_cmpR (op_neA (un64 hr)) m_neA (se_callB (call_reprX hr (owX_sys Φ.xf.ow)) m_repr rfl Φ.f_repr boot_repr (sa_cons (se_fnG (ok__law_fields Φ) hr (by decide) tk (sc_some (sa_cons (se_var (i := 4)) sa_nil) sk_nil)) sa_nil)) (se_callB (call_reprX hr (owX_sys Φ.xf.ow)) m_repr rfl Φ.f_repr boot_repr (sa_cons (se_bin op_rep (m_rep newK_fz) (se_cel (sa_cons (se_var (i := 3)) sa_nil)) se_int) sa_nil)) (by first | exact nobehind _ (by decide) (by decide) | rfl)) (ss_one (s_ret se_bl)) ss_nil))))))))) (ss_one (s_ret se_bl)))
theorem ok_law {P : Program} {w : World} {K : PySem.W.Frag} {mg : Str → Option Value} {base : Heap} (Φ : Fs K mg) : ClG P w K mg base "law" 4 f_law 1 [] gPos := by
  obtain ⟨fd, fD⟩ := Φ.d_law
  exact ⟨⟨_, fd, ["_law_script"], ⟨fn_law Φ fD, ar_fnM⟩, Φ.g_law, fD.kp, BnM.pos (fD.bindsN fun _ _ _ _ _ _ us hl => match us, hl with | [_], _ => rfl) 1 rfl⟩⟩
end Gk04

set_option maxHeartbeats 0
namespace Gk04
open PySem L2 PySem.Spec PyProof.Rows CL
def D__law_all : He.DefD := ⟨("_law_all", none), "_law_all", "_law_all", defArgs st__law_all, defBody st__law_all, defScope st__law_all, [], []⟩
def D__law_bases : He.DefD := ⟨("_law_bases", none), "_law_bases", "_law_bases", defArgs st__law_bases, defBody st__law_bases, defScope st__law_bases, [], []⟩
def D__law_by_names : He.DefD := ⟨("_law_by_names", none), "_law_by_names", "_law_by_names", defArgs st__law_by_names, defBody st__law_by_names, defScope st__law_by_names, [], []⟩
def D__law_due : He.DefD := ⟨("_law_due", none), "_law_due", "_law_due", defArgs st__law_due, defBody st__law_due, defScope st__law_due, [], []⟩
def D__law_fields : He.DefD := ⟨("_law_fields", none), "_law_fields", "_law_fields", defArgs st__law_fields, defBody st__law_fields, defScope st__law_fields, [], []⟩
def D__law_kinds : He.DefD := ⟨("_law_kinds", none), "_law_kinds", "_law_kinds", defArgs st__law_kinds, defBody st__law_kinds, defScope st__law_kinds, [], []⟩
def D_law : He.DefD := ⟨("law", none), "law", "law", defArgs st_law, defBody st_law, defScope st_law, [], []⟩
def D_NoPlayers : He.DefD := ⟨("NoPlayers", some "__init__"), "__init__", "NoPlayers.__init__", defArgs st_NoPlayers, defBody st_NoPlayers, defScope st_NoPlayers, [], []⟩
def D_NoVerdicts : He.DefD := ⟨("NoVerdicts", some "__init__"), "__init__", "NoVerdicts.__init__", defArgs st_NoVerdicts, defBody st_NoVerdicts, defScope st_NoVerdicts, [], []⟩
def D_NoPair : He.DefD := ⟨("NoPair", some "__init__"), "__init__", "NoPair.__init__", defArgs st_NoPair, defBody st_NoPair, defScope st_NoPair, [], []⟩
def D_NoPairs : He.DefD := ⟨("NoPairs", some "__init__"), "__init__", "NoPairs.__init__", defArgs st_NoPairs, defBody st_NoPairs, defScope st_NoPairs, [], []⟩
def D_NoLot : He.DefD := ⟨("NoLot", some "__init__"), "__init__", "NoLot.__init__", defArgs st_NoLot, defBody st_NoLot, defScope st_NoLot, [], []⟩
def D_NoTable : He.DefD := ⟨("NoTable", some "__init__"), "__init__", "NoTable.__init__", defArgs st_NoTable, defBody st_NoTable, defScope st_NoTable, [], []⟩
def D_NoKinds : He.DefD := ⟨("NoKinds", some "__init__"), "__init__", "NoKinds.__init__", defArgs st_NoKinds, defBody st_NoKinds, defScope st_NoKinds, [], []⟩
def D_NoTruth : He.DefD := ⟨("NoTruth", some "__init__"), "__init__", "NoTruth.__init__", defArgs st_NoTruth, defBody st_NoTruth, defScope st_NoTruth, [], []⟩
def D_NoWord : He.DefD := ⟨("NoWord", some "__init__"), "__init__", "NoWord.__init__", defArgs st_NoWord, defBody st_NoWord, defScope st_NoWord, [], []⟩
def D_NoText : He.DefD := ⟨("NoText", some "__init__"), "__init__", "NoText.__init__", defArgs st_NoText, defBody st_NoText, defScope st_NoText, [], []⟩
def D_NoPrices : He.DefD := ⟨("NoPrices", some "__init__"), "__init__", "NoPrices.__init__", defArgs st_NoPrices, defBody st_NoPrices, defScope st_NoPrices, [], []⟩
def D_NoPlayer : He.DefD := ⟨("NoPlayer", some "__init__"), "__init__", "NoPlayer.__init__", defArgs st_NoPlayer, defBody st_NoPlayer, defScope st_NoPlayer, [], []⟩
def D_NoGap : He.DefD := ⟨("NoGap", some "__init__"), "__init__", "NoGap.__init__", defArgs st_NoGap, defBody st_NoGap, defScope st_NoGap, [], []⟩
def D_NoOrder : He.DefD := ⟨("NoOrder", some "__init__"), "__init__", "NoOrder.__init__", defArgs st_NoOrder, defBody st_NoOrder, defScope st_NoOrder, [], []⟩
def D_NoPlace : He.DefD := ⟨("NoPlace", some "__init__"), "__init__", "NoPlace.__init__", defArgs st_NoPlace, defBody st_NoPlace, defScope st_NoPlace, [], []⟩
def D_NoBack : He.DefD := ⟨("NoBack", some "__init__"), "__init__", "NoBack.__init__", defArgs st_NoBack, defBody st_NoBack, defScope st_NoBack, [], []⟩
def D_NoRow : He.DefD := ⟨("NoRow", some "__init__"), "__init__", "NoRow.__init__", defArgs st_NoRow, defBody st_NoRow, defScope st_NoRow, [], []⟩
def D_TooMany : He.DefD := ⟨("TooMany", some "__init__"), "__init__", "TooMany.__init__", defArgs st_TooMany, defBody st_TooMany, defScope st_TooMany, [], []⟩
def fn : List He.DefD := [D__law_all, D__law_bases, D__law_by_names, D__law_due, D__law_fields, D__law_kinds, D_law, D_NoPlayers, D_NoVerdicts, D_NoPair, D_NoPairs, D_NoLot, D_NoTable, D_NoKinds, D_NoTruth, D_NoWord, D_NoText, D_NoPrices, D_NoPlayer, D_NoGap, D_NoOrder, D_NoPlace, D_NoBack, D_NoRow, D_TooMany]
def fa : List He.Fa := [.free "IndexError", .free "KeyError", .free "LookupError", .free "OverflowError", .free "ValueError", .free "enumerate", .free "isinstance", .free "len", .free "max", .free "min", .free "range", .free "repr", .glo "_law_all", .glo "_law_bases", .glo "_law_by_names", .glo "_law_due", .glo "_law_fields", .glo "_law_kinds", .glo "law"]
def loose : List PySem.Str := (["NoPlayers", "NoVerdicts", "NoPair", "NoPairs", "NoLot", "NoTable", "NoKinds", "NoTruth", "NoWord", "NoText", "NoPrices", "NoPlayer", "NoGap", "NoOrder", "NoPlace", "NoBack", "NoRow", "TooMany", "_law_all", "_law_by_names", "_law_kinds", "_law_bases", "_law_due", "_law_fields"] : List PySem.Str)
abbrev ow : PySem.W.Frag → Bool := owX xrs bss
abbrev R : PySem.W.OpenRow := PySem.W.OpenLaw.row PySem.Challenge.rw_lastinrow_k04_refusals_apart
abbrev hk : PySem.W.Hook := hookX 4 fa fn ow
def ob (s : PySem.W.SharedT) : AlX := obsXG 4 fa fn ow (HandSHeadRun.getT s)
theorem ob_eq (s : PySem.W.SharedT) : ob s = hk.obs s.abs := obsXG_eq (HandSHeadRun.getT_eq s)
theorem run (w : World) : HandSHeadRun.RunEq R (PySem.W.view R.prog [26]) hk ob 6000 loose w := by
  intro os
  kernel_rfl
theorem facts {K : PySem.W.Frag} {h : Heap} {mg : Str → Option Value} (X : K.In h) (G : h.Ns mainGlobals mg) (hw : ow K = true) (c : He.SaysD fa fn K) : Fs K mg :=
  ⟨xfs_of X G hw,
    He.free_ok X G (c.fact 0 (f := .free "IndexError") rfl),
    He.free_ok X G (c.fact 1 (f := .free "KeyError") rfl),
    He.free_ok X G (c.fact 2 (f := .free "LookupError") rfl),
    He.free_ok X G (c.fact 3 (f := .free "OverflowError") rfl),
    He.free_ok X G (c.fact 4 (f := .free "ValueError") rfl),
    He.free_ok X G (c.fact 5 (f := .free "enumerate") rfl),
    He.free_ok X G (c.fact 6 (f := .free "isinstance") rfl),
    He.free_ok X G (c.fact 7 (f := .free "len") rfl),
    He.free_ok X G (c.fact 8 (f := .free "max") rfl),
    He.free_ok X G (c.fact 9 (f := .free "min") rfl),
    He.free_ok X G (c.fact 10 (f := .free "range") rfl),
    He.free_ok X G (c.fact 11 (f := .free "repr") rfl),
    c.def_ 0 (d := D__law_all) rfl,
    He.glo_ok X G (c.fact 12 (f := .glo "_law_all") rfl),
    c.def_ 1 (d := D__law_bases) rfl,
    He.glo_ok X G (c.fact 13 (f := .glo "_law_bases") rfl),
    c.def_ 2 (d := D__law_by_names) rfl,
    He.glo_ok X G (c.fact 14 (f := .glo "_law_by_names") rfl),
    c.def_ 3 (d := D__law_due) rfl,
    He.glo_ok X G (c.fact 15 (f := .glo "_law_due") rfl),
    c.def_ 4 (d := D__law_fields) rfl,
    He.glo_ok X G (c.fact 16 (f := .glo "_law_fields") rfl),
    c.def_ 5 (d := D__law_kinds) rfl,
    He.glo_ok X G (c.fact 17 (f := .glo "_law_kinds") rfl),
    c.def_ 6 (d := D_law) rfl,
    He.glo_ok X G (c.fact 18 (f := .glo "law") rfl),
    c.def_ 7 (d := D_NoPlayers) rfl,
    c.def_ 8 (d := D_NoVerdicts) rfl,
    c.def_ 9 (d := D_NoPair) rfl,
    c.def_ 10 (d := D_NoPairs) rfl,
    c.def_ 11 (d := D_NoLot) rfl,
    c.def_ 12 (d := D_NoTable) rfl,
    c.def_ 13 (d := D_NoKinds) rfl,
    c.def_ 14 (d := D_NoTruth) rfl,
    c.def_ 15 (d := D_NoWord) rfl,
    c.def_ 16 (d := D_NoText) rfl,
    c.def_ 17 (d := D_NoPrices) rfl,
    c.def_ 18 (d := D_NoPlayer) rfl,
    c.def_ 19 (d := D_NoGap) rfl,
    c.def_ 20 (d := D_NoOrder) rfl,
    c.def_ 21 (d := D_NoPlace) rfl,
    c.def_ 22 (d := D_NoBack) rfl,
    c.def_ 23 (d := D_NoRow) rfl,
    c.def_ 24 (d := D_TooMany) rfl⟩
end Gk04

set_option maxHeartbeats 0
namespace Gk04
open PySem CL
def excs (o : D) : List D := xrs.map fun x => .exc x.c [(x.f, o)]
theorem all_ok (o : D) (μ : Mem) : f__law_all [o] μ = .ok (.lst (excs o)) μ := by kernel_rfl
theorem names_ok (o : D) (μ : Mem) : f__law_by_names [o] μ = .ok (.lst (excs o)) μ := by kernel_rfl
theorem fields_ok (o : D) (μ : Mem) : f__law_fields [.lst (excs o)] μ = .ok (.lst (List.replicate 18 o)) μ := by kernel_rfl
def chk : MS := (sIf (bOr (bVal (mBin dNeA (mCallG 1 0 gPos f__law_kinds (mCons (mVar 6) mNil) mNil) (mComp kFz (CL.iRng1 (mCons (mC (.int 18)) mNil)) (tgName 7) bYes (mBin dEqA (mVar 5) (mVar 7)) [7]))) (bVal (mBin dNeA (mCallG 1 0 gPos f__law_bases (mCons (mVar 6) mNil) mNil) (mCallG 1 0 gPos f__law_due (mCons (mVar 5) mNil) mNil)))) (sRet (mC (.bl false))) sNx)
def inner : MS := sFor (iEnumM (mCons (mVar 4) mNil)) (tgTup [5, 6]) chk
theorem inner_ok (s k c x5 x6 x7 : Option D) (o : D) (μ : Mem) : inner [s, k, c, some o, some (.lst (excs o)), x5, x6, x7] μ = .nx [s, k, c, some o, some (.lst (excs o)), some (.int 17), some (.exc "TooMany" [("many", o)]), x7] μ := by kernel_rfl
def rst : MS := (sIf (bVal (mBin dNeA (mCall dRepr (mCons (mCallG 1 0 gPos f__law_fields (mCons (mVar 4) mNil) mNil) mNil)) (mCall dRepr (mCons (mBin (dRep kFz) (mCel (mCons (mVar 3) mNil)) (mC (.int 18))) mNil)))) (sRet (mC (.bl false))) sNx)
theorem tf_le (b : Nat) : ∀ (ts : List Str) (k : Nat) (acc : Str), (∀ t ∈ ts, t.length ≤ b) → (textFrom k acc ts).length ≤ acc.length + ts.length * (b + 2)
  | [], k, acc, _ => by
    show acc.length ≤ _
    simp
  | t :: r, k, acc, h => by
    have ih := tf_le b r (k + 1) (acc ++ (if k > 0 then ", " else "" : String) ++ t) fun x hx => h x (List.mem_cons_of_mem _ hx)
    have h1 := h t List.mem_cons_self
    have e1 : (acc ++ ((if k > 0 then ", " else "" : String) : Str) ++ t).length = acc.length + ((if k > 0 then ", " else "" : String) : Str).length + t.length := by
      rw [strLen_append, strLen_append]
    have e2 : ((if k > 0 then ", " else "" : String) : Str).length ≤ 2 := by
      split
      · decide +kernel
      · decide +kernel
    show (textFrom (k + 1) (acc ++ (if k > 0 then ", " else "" : String) ++ t) r).length ≤ _
    rw [List.length_cons, Nat.add_mul, Nat.one_mul]
    omega
theorem shownAll_rep (p : PyData) : ∀ n : Nat, PyData.shownAll (List.replicate n p) = List.replicate n p.shown
  | 0 => rfl
  | n + 1 => by
    rw [List.replicate_succ, List.replicate_succ, PyData.shownAll, shownAll_rep p n]
theorem showableAll_rep (p : PyData) (h : p.showable = true) : ∀ n : Nat, PyData.showableAll (List.replicate n p) = true
  | 0 => rfl
  | n + 1 => by
    rw [List.replicate_succ, PyData.showableAll, h, showableAll_rep p h n]
    rfl
theorem depthAll_rep (p : PyData) : ∀ n : Nat, PyData.depthAll (List.replicate n p) ≤ p.depth
  | 0 => Nat.zero_le _
  | n + 1 => by
    rw [List.replicate_succ, PyData.depthAll]
    have := depthAll_rep p n
    omega
theorem mapM_rep {f : D → Option PyData} {o : D} {p : PyData} (h : f o = some p) : ∀ n : Nat, (List.replicate n o).mapM f = some (List.replicate n p)
  | 0 => rfl
  | n + 1 => by
    rw [List.replicate_succ, List.mapM_cons, h, mapM_rep h n]
    rfl
/-- a value that repr takes -/
structure OddOk (o : D) (p : PyData) : Prop where
  pq : ∀ μ, pq μ 39 o = some p
  sh : p.showable = true
  de : p.depth ≤ 39
  le : p.shown.length ≤ 50000
theorem repr_ok {o : D} {p : PyData} (h : OddOk o p) (μ : Mem) : dRepr [D.lst (List.replicate 18 o)] μ = Rs.ok (D.str (PyData.list (List.replicate 18 p)).shown) μ := by
  have e : CL.pq μ 40 (.lst (List.replicate 18 o)) = some (.list (List.replicate 18 p)) := by
    show ((List.replicate 18 o).mapM (CL.pq μ 39)).map PyData.list = _
    rw [mapM_rep (h.pq μ) 18]
    rfl
  show (match CL.pq μ 40 (.lst (List.replicate 18 o)) with
      | some p => if p.showable = true ∧ p.depth ≤ 40 ∧ p.shown.length ≤ 1000000 then Rs.ok (D.str p.shown) μ else .no
      | none => .no) = _
  rw [e]
  dsimp only
  rw [if_pos]
  refine ⟨?_, ?_, ?_⟩
  · rw [PyData.showable]
    exact showableAll_rep p h.sh 18
  · rw [PyData.depth]
    have := depthAll_rep p 18
    have := h.de
    omega
  · rw [PyData.shown, shownAll_rep]
    unfold listText
    have h1 := tf_le 50000 (List.replicate 18 p.shown) 0 "[" fun t ht => by
      rw [(List.mem_replicate.mp ht).2]
      exact h.le
    rw [strLen_append]
    have e1 : (("[" : String) : Str).length = 1 := by decide +kernel
    have e2 : (("]" : String) : Str).length = 1 := by decide +kernel
    rw [List.length_replicate] at h1
    omega
theorem ap1 (R : List D → M D) (o : D) (s k c x5 x6 x7 : Option D) (μ : Mem) : mCall R (mCons (mCallG 1 0 gPos f__law_fields (mCons (mVar 4) mNil) mNil) mNil) [s, k, c, some o, some (.lst (excs o)), x5, x6, x7] μ = R [.lst (List.replicate 18 o)] μ := by kernel_rfl
theorem ap2 (R : List D → M D) (Q : D → D → M D) (o : D) (s k c x4 x5 x6 x7 : Option D) (μ : Mem) : mCall R (mCons (mBin Q (mCel (mCons (mVar 3) mNil)) (mC (.int 18))) mNil) [s, k, c, some o, x4, x5, x6, x7] μ = ((Q (.cel μ.length) (.int 18) (μ ++ [some (.lst [o])])).bind fun x m => Rs.ok [x] m).bind R := by kernel_rfl
theorem ap3 (o : D) (μ : Mem) : dRep kFz (.cel μ.length) (.int 18) (μ ++ [some (.lst [o])]) = .ok (.lst (List.replicate 18 o)) (μ ++ [some (.lst [o])]) := by
  have e : celL (μ ++ [some (.lst [o])]) (.cel μ.length) = some (μ.length, [o]) := by
    unfold celL
    dsimp only
    rw [List.getElem?_append_right (Nat.le_refl _), Nat.sub_self]
    rfl
  unfold dRep
  rw [e]
  rfl
theorem dNe_str (S : Str) (μ : Mem) : dNeA (.str S) (.str S) μ = .ok (.bl false) μ := by
  show Rs.ok (D.bl (!decide (S = S))) μ = _
  rw [decide_eq_true rfl]
  rfl
theorem mBin_ok {g : D → D → M D} {a b : ME} {env : CL.Env} {μ m1 m2 : Mem} {x y : D} (h1 : a env μ = .ok x m1) (h2 : b env m1 = .ok y m2) : mBin g a b env μ = g x y m2 := by
  unfold mBin
  rw [h1]
  show ((b env m1).bind fun y => g x y) = _
  rw [h2]
  rfl
theorem rst_ok {o : D} {p : PyData} (h : OddOk o p) (s k c x5 x6 x7 : Option D) (μ : Mem) : rst [s, k, c, some o, some (.lst (excs o)), x5, x6, x7] μ = .nx [s, k, c, some o, some (.lst (excs o)), x5, x6, x7] (μ ++ [some (.lst [o])]) := by
  have a4 : mBin dNeA (mCall dRepr (mCons (mCallG 1 0 gPos f__law_fields (mCons (mVar 4) mNil) mNil) mNil)) (mCall dRepr (mCons (mBin (dRep kFz) (mCel (mCons (mVar 3) mNil)) (mC (.int 18))) mNil)) [s, k, c, some o, some (.lst (excs o)), x5, x6, x7] μ = .ok (.bl false) (μ ++ [some (.lst [o])]) := by
    have b1 := ap1 dRepr o s k c x5 x6 x7 μ
    rw [repr_ok h] at b1
    have b2 := ap2 dRepr (dRep kFz) o s k c (some (.lst (excs o))) x5 x6 x7 μ
    rw [ap3] at b2
    have b3 : ((Rs.ok (D.lst (List.replicate 18 o)) (μ ++ [some (.lst [o])])).bind fun x m => Rs.ok [x] m).bind dRepr = dRepr [D.lst (List.replicate 18 o)] (μ ++ [some (.lst [o])]) := rfl
    rw [b3, repr_ok h] at b2
    rw [mBin_ok b1 b2]
    exact dNe_str _ _
  unfold rst sIf bVal
  rw [a4]
  rfl

theorem loop_inv {items : List D} {put : D → CL.Env → Option CL.Env} {body : MS} (P : CL.Env → Prop) : ∀ (l : List D), (∀ d ∈ l, ∀ (env : CL.Env) (μ : Mem), P env → ∃ env1 env2 μ2, put d env = some env1 ∧ body env1 μ = .nx env2 μ2 ∧ P env2) →
    ∀ (env : CL.Env) (μ : Mem), P env → ∃ env' μ', loopM ⟨items, none⟩ put body l env μ = .nx env' μ' ∧ P env'
  | [], _, env, μ, hp => ⟨env, μ, rfl, hp⟩
  | d :: l, h, env, μ, hp => by
    obtain ⟨env1, env2, μ2, h1, h2, h3⟩ := h d List.mem_cons_self env μ hp
    obtain ⟨env', μ', h4, h5⟩ := loop_inv P l (fun x hx => h x (List.mem_cons_of_mem _ hx)) env2 μ2 h3
    refine ⟨env', μ', ?_, h5⟩
    have e : loopM ⟨items, none⟩ put body (d :: l) env μ = (match put d env with
      | none => .no
      | some env1 => match body env1 μ with
        | .nx e m => loopM ⟨items, none⟩ put body l e m
        | .ct e m => loopM ⟨items, none⟩ put body l e m
        | .bk e m => .nx e m
        | .rt d m => .rt d m
        | .ex c x e m => .ex c x e m
        | .no => .no) := rfl
    rw [e, h1]
    dsimp only
    rw [h2]
    exact h4
theorem seq_nx {a b : MS} {env env1 : CL.Env} {μ μ1 : Mem} (h : a env μ = .nx env1 μ1) : sSeq a b env μ = b env1 μ1 := by
  unfold sSeq
  rw [h]
theorem for_ok {mi : MI} {tg : Tgt} {body : MS} {env : CL.Env} {μ μ1 : Mem} {t : Its} (h : mi env μ = .ok t μ1) : sFor mi tg body env μ = loopM t tg.put body t.items env μ1 := by
  unfold sFor
  rw [h]
  rfl
/-- the shape of the slots -/
def Sh (s k c o : Option D) (env : CL.Env) : Prop := ∃ x4 x5 x6 x7, env = [s, k, c, o, x4, x5, x6, x7]
def midI : MI := (iSeq (mLst (mCons (mCallG 1 0 gPos f__law_all (mCons (mVar 3) mNil) mNil) (mCons (mCallG 1 0 gPos f__law_by_names (mCons (mVar 3) mNil) mNil) mNil))))
def mid : MS := sFor midI (tgName 4) (sSeq inner rst)
theorem mid_ok {o : D} {p : PyData} (h : OddOk o p) (s k c x4 x5 x6 x7 : Option D) (μ : Mem) : ∃ env' μ', mid [s, k, c, some o, x4, x5, x6, x7] μ = .nx env' μ' ∧ Sh s k c (some o) env' := by
  have e : midI [s, k, c, some o, x4, x5, x6, x7] μ = .ok ⟨[.lst (excs o), .lst (excs o)], none⟩ μ := by kernel_rfl
  unfold mid
  rw [for_ok e]
  refine loop_inv (Sh s k c (some o)) _ (fun d hd env μ hp => ?_) _ μ ⟨x4, x5, x6, x7, rfl⟩
  have ed : d = .lst (excs o) := by
    simp only [List.mem_cons, List.not_mem_nil, or_false, or_self] at hd
    exact hd
  subst ed
  obtain ⟨y4, y5, y6, y7, rfl⟩ := hp
  refine ⟨[s, k, c, some o, some (.lst (excs o)), y5, y6, y7], [s, k, c, some o, some (.lst (excs o)), some (.int 17), some (.exc "TooMany" [("many", o)]), y7], μ ++ [some (.lst [o])], rfl, ?_, ⟨_, _, _, _, rfl⟩⟩
  rw [seq_nx (inner_ok s k c y5 y6 y7 o μ)]
  exact rst_ok h s k c _ _ y7 μ
def odds (z : Int) : List D := [.int (z % 10 ^ 30), .non, .tup [.str "a", .int (z % 7)], .str "", .str "text", .lst [], .lst [.int (z % 5)], .dct false [], .bl true]
theorem pq_int (i : Int) (μ : Mem) : CL.pq μ 39 (.int i) = some (.int i) := rfl
theorem odd_int {i : Int} (h0 : 0 ≤ i) (h1 : i < 10 ^ 30) : OddOk (.int i) (.int i) := by
  have hn : i.natAbs < 10 ^ 30 := by omega
  have hl : i.natAbs.log2 < 1920 := by
    by_cases hz : i.natAbs = 0
    · rw [hz]
      decide
    · exact Nat.lt_of_lt_of_le ((Nat.log2_lt hz).mpr (Nat.lt_trans hn (by decide : (10:Nat) ^ 30 < 2 ^ 100))) (by decide)
  refine ⟨fun _ => rfl, ?_, ?_, ?_⟩
  · rw [PyData.showable]
    exact decide_eq_true hl
  · rw [PyData.depth]
    decide
  · rw [PyData.shown]
    exact Nat.le_trans (PyProof.Rows.int_text_len_1921 hl) (by decide)
theorem odd_a (j : Int) (h : j = 0 ∨ j = 1 ∨ j = 2 ∨ j = 3 ∨ j = 4 ∨ j = 5 ∨ j = 6) : OddOk (.tup [.str "a", .int j]) (.tuple [.str "a", .int j]) := by
  rcases h with h | h | h | h | h | h | h
  all_goals
    subst h
    exact ⟨fun _ => rfl, by decide +kernel, by decide +kernel, by decide +kernel⟩
theorem odd_b (j : Int) (h : j = 0 ∨ j = 1 ∨ j = 2 ∨ j = 3 ∨ j = 4) : OddOk (.lst [.int j]) (.list [.int j]) := by
  rcases h with h | h | h | h | h
  all_goals
    subst h
    exact ⟨fun _ => rfl, by decide +kernel, by decide +kernel, by decide +kernel⟩
theorem odds_ok (z : Int) : ∀ d ∈ odds z, ∃ p, OddOk d p := by
  intro d hd
  simp only [odds, List.mem_cons, List.not_mem_nil, or_false] at hd
  rcases hd with h | h | h | h | h | h | h | h | h
  · subst h
    exact ⟨_, odd_int (Int.emod_nonneg _ (by decide)) (Int.emod_lt_of_pos _ (by decide))⟩
  · subst h
    exact ⟨.none, fun _ => rfl, by decide +kernel, by decide +kernel, by decide +kernel⟩
  · subst h
    have a := Int.emod_nonneg z (show (7 : Int) ≠ 0 by decide)
    have b := Int.emod_lt_of_pos z (show (0 : Int) < 7 by decide)
    exact ⟨_, odd_a _ (by omega)⟩
  · subst h
    exact ⟨.str "", fun _ => rfl, by decide +kernel, by decide +kernel, by decide +kernel⟩
  · subst h
    exact ⟨.str "text", fun _ => rfl, by decide +kernel, by decide +kernel, by decide +kernel⟩
  · subst h
    exact ⟨.list [], fun _ => rfl, by decide +kernel, by decide +kernel, by decide +kernel⟩
  · subst h
    have a := Int.emod_nonneg z (show (5 : Int) ≠ 0 by decide)
    have b := Int.emod_lt_of_pos z (show (0 : Int) < 5 by decide)
    exact ⟨_, odd_b _ (by omega)⟩
  · subst h
    exact ⟨.dict [], fun _ => rfl, by decide +kernel, by decide +kernel, by decide +kernel⟩
  · subst h
    exact ⟨.bool true, fun _ => rfl, by decide +kernel, by decide +kernel, by decide +kernel⟩

def cellE : ME := (mBin dIdx (mBin (dAddK kFz) (mSl kFz (mVar 0) (oSome (mVar 1)) (oSome (mBin (dAddK kFz) (mVar 1) (mC (.int 1))))) (mLst (mCons (mC (.int 0)) mNil))) (mC (.int 0)))
theorem atD_head (d : D) (r : List D) : atD (d :: r) 0 = some d := by
  unfold atD L2.ixN
  rw [if_pos (Int.le_refl 0), if_pos (by rw [List.length_cons]; omega)]
  rfl
theorem cut_mem {ds : List D} {lo hi : Option Int} {d : D} (h : d ∈ cutD ds lo hi) : d ∈ ds := by
  unfold cutD at h
  exact List.mem_of_mem_drop (List.mem_of_mem_take h)
theorem cut_len (ds : List D) (lo hi : Option Int) : (cutD ds lo hi).length ≤ ds.length := by
  unfold cutD
  rw [List.length_take, List.length_drop]
  omega
theorem cell_ok (ns : List Int) (hl : ns.length ≤ 63) (i : Int) (x2 x3 x4 x5 x6 x7 : Option D) (μ : Mem) : ∃ z, cellE [some (scriptD ns), some (.int i), x2, x3, x4, x5, x6, x7] μ = .ok (.int z) μ := by
  have e : ∀ ds : List D, cellE [some (.lst ds), some (.int i), x2, x3, x4, x5, x6, x7] μ = ((if (cutD ds (some i) (some (i + 1))).length + [D.int 0].length ≤ lim then kFz (cutD ds (some i) (some (i + 1)) ++ [.int 0]) μ else .no).bind fun x m => dIdx x (.int 0) m) := fun ds => rfl
  unfold scriptD
  rw [e]
  have hc := cut_len (ns.map D.int) (some i) (some (i + 1))
  rw [List.length_map] at hc
  rw [if_pos (by unfold lim; simp only [List.length_cons, List.length_nil]; omega)]
  show ∃ z, dIdx (.lst (cutD (ns.map D.int) (some i) (some (i + 1)) ++ [.int 0])) (.int 0) μ = _
  have f : ∀ xs : List D, dIdx (.lst xs) (.int 0) μ = (match atD xs 0 with
    | some d => .ok d μ
    | none => .no) := fun _ => rfl
  rw [f]
  cases hx : cutD (ns.map D.int) (some i) (some (i + 1)) with
  | nil => exact ⟨0, by rw [List.nil_append, atD_head]⟩
  | cons d r =>
    have hm : d ∈ ns.map D.int := cut_mem (lo := some i) (hi := some (i + 1)) (by rw [hx]; exact List.mem_cons_self)
    obtain ⟨z, _, hz⟩ := List.mem_map.mp hm
    subst hz
    exact ⟨z, by rw [List.cons_append, atD_head]⟩
def oddI : MI := (iSeq (mLst (mCons (mBin dMod (mVar 2) (mBin dPow (mC (.int 10)) (mC (.int 30)))) (mCons (mC .non) (mCons (mTup (mCons (mC (.str "a")) (mCons (mBin dMod (mVar 2) (mC (.int 7))) mNil))) (mCons (mC (.str "")) (mCons (mC (.str "text")) (mCons (mLst mNil) (mCons (mLst (mCons (mBin dMod (mVar 2) (mC (.int 5))) mNil)) (mCons (mDFz false) (mCons (mC (.bl true)) mNil)))))))))))
def body : MS := sSeq (sAsg cellE (tgName 2)) (sFor oddI (tgName 3) mid)
def Sh0 (s : Option D) (env : CL.Env) : Prop := ∃ x1 x2 x3 x4 x5 x6 x7, env = [s, x1, x2, x3, x4, x5, x6, x7]
theorem asg_nx {me : ME} {t : Tgt} {env env1 : CL.Env} {μ μ1 : Mem} {d : D} (h : me env μ = .ok d μ1) (h2 : t.put d env = some env1) : sAsg me t env μ = .nx env1 μ1 := by
  unfold sAsg
  rw [h]
  show (match t.put d env with
    | some e => Sr.nx e μ1
    | none => .no) = _
  rw [h2]
theorem body_ok (ns : List Int) (hl : ns.length ≤ 63) (i : Int) (x2 x3 x4 x5 x6 x7 : Option D) (μ : Mem) : ∃ env' μ', body [some (scriptD ns), some (.int i), x2, x3, x4, x5, x6, x7] μ = .nx env' μ' ∧ Sh0 (some (scriptD ns)) env' := by
  obtain ⟨z, hz⟩ := cell_ok ns hl i x2 x3 x4 x5 x6 x7 μ
  unfold body
  rw [seq_nx (asg_nx (env1 := [some (scriptD ns), some (.int i), some (.int z), x3, x4, x5, x6, x7]) hz rfl)]
  have e : oddI [some (scriptD ns), some (.int i), some (.int z), x3, x4, x5, x6, x7] μ = .ok ⟨odds z, none⟩ μ := by kernel_rfl
  rw [for_ok e]
  obtain ⟨env', μ', h1, h2⟩ := loop_inv (items := odds z) (put := (tgName 3).put) (body := mid) (fun env => ∃ o, Sh (some (scriptD ns)) (some (.int i)) (some (.int z)) o env) (odds z) (fun d hd env μ hp => by
    obtain ⟨o, y4, y5, y6, y7, rfl⟩ := hp
    obtain ⟨p, hp⟩ := odds_ok z d hd
    obtain ⟨env2, μ2, h1, h2⟩ := mid_ok hp (some (scriptD ns)) (some (.int i)) (some (.int z)) y4 y5 y6 y7 μ
    exact ⟨_, env2, μ2, rfl, h1, _, h2⟩) _ μ ⟨x3, x4, x5, x6, x7, rfl⟩
  obtain ⟨o, y4, y5, y6, y7, rfl⟩ := h2
  exact ⟨_, μ', h1, _, _, _, _, _, _, _, rfl⟩
def rngI : MI := (CL.iRng1 (mCons (mCall dMax2 (mCons (mC (.int 1)) (mCons (mCall dMin2 (mCons (mCall dLen (mCons (mVar 0) mNil)) (mCons (mC (.int 9)) mNil))) mNil))) mNil))
def mx (L : Int) : Int := if (if (9 : Int) < L then 9 else L) > 1 then (if (9 : Int) < L then 9 else L) else 1
theorem law_eq : b_law = sSeq (sFor rngI (tgName 1) body) (sRet (mC (.bl true))) := rfl
theorem rng_ok (ds : List D) (x1 x2 x3 x4 x5 x6 x7 : Option D) (μ : Mem) : rngI [some (.lst ds), x1, x2, x3, x4, x5, x6, x7] μ = .ok ⟨rangeL 0 (mx ds.length), none⟩ μ := by
  have e : rngI [some (.lst ds), x1, x2, x3, x4, x5, x6, x7] μ = (if big62 (mx ds.length) = true then .ok ⟨rangeL 0 (mx ds.length), none⟩ μ else .no) := rfl
  rw [e, if_pos]
  unfold big62
  refine decide_eq_true ?_
  unfold mx
  split
  · split <;> omega
  · omega
theorem plain (ns : List Int) (hl : ns.length ≤ 63) (_ : ∀ z ∈ ns, Builtin.Int.intBits z ≤ 1048576) : ∃ μ, f_law [scriptD ns] [] = .ok (.bl true) μ := by
  obtain ⟨env', μ', h1, h2⟩ := loop_inv (items := rangeL 0 (mx (ns.map D.int).length)) (put := (tgName 1).put) (body := body) (Sh0 (some (scriptD ns))) (rangeL 0 (mx (ns.map D.int).length)) (fun d hd env μ hp => by
    obtain ⟨y1, y2, y3, y4, y5, y6, y7, rfl⟩ := hp
    obtain ⟨j, _, rfl⟩ := List.mem_map.mp hd
    obtain ⟨env2, μ2, h1, h2⟩ := body_ok ns hl (0 + (j : Nat)) y2 y3 y4 y5 y6 y7 μ
    exact ⟨_, env2, μ2, rfl, h1, h2⟩) [some (scriptD ns), none, none, none, none, none, none, none] [] ⟨_, _, _, _, _, _, _, rfl⟩
  have e : sFor rngI (tgName 1) body [some (scriptD ns), none, none, none, none, none, none, none] [] = .nx env' μ' := by
    have r := rng_ok (ns.map D.int) none none none none none none none []
    rw [for_ok (show rngI [some (scriptD ns), none, none, none, none, none, none, none] [] = _ from r)]
    exact h1
  have e2 : b_law [some (scriptD ns), none, none, none, none, none, none, none] [] = .rt (.bl true) μ' := by
    rw [law_eq, seq_nx e]
    rfl
  refine ⟨μ', ?_⟩
  have e3 : f_law [scriptD ns] [] = (match b_law [some (scriptD ns), none, none, none, none, none, none, none] [] with
    | .nx _ m => .ok .non m
    | .rt d m => .ok d m
    | .ex c x _ m => .ex c x m
    | _ => .no) := rfl
  rw [e3, e2]
end Gk04

set_option maxHeartbeats 0
open PySem PySem.W PySem.Calls PyProof.Rows
theorem PySem.Challenge.cw_lastinrow_k04_refusals_apart_holds : PySem.Challenge.rw_lastinrow_k04_refusals_apart.Holds := by
  w_on; o_law
  refine HandSHeadRun.head_any (r := OpenLaw.row PySem.Challenge.rw_lastinrow_k04_refusals_apart) (q := view (OpenLaw.row PySem.Challenge.rw_lastinrow_k04_refusals_apart).prog [26]) (H := Gk04.hk) (ob := Gk04.ob) (M := 6000) (loose := Gk04.loose)
    (d := HandSHeadRun.topDef (OpenLaw.row PySem.Challenge.rw_lastinrow_k04_refusals_apart).prog 26) (kwd := []) Gk04.ob_eq
    (by kernel_rfl) (fun s => by kernel_rfl) Gk04.run (by kernel_rfl) (by kernel_rfl) (by kernel_rfl) (by rfl) (by first | assumption | decide +kernel) (by decide +kernel) ⟨rfl, rfl, rfl, rfl, rfl, by decide +kernel⟩ ?hw ?hc
  case hw => w_witness2
  case hc =>
    refine CL.walk_cl (l := PySem.Challenge.rw_lastinrow_k04_refusals_apart) (n := 63) (k := 4) (x := "_law_script") (g := Gk04.f_law) rfl (by decide) (by kernel_rfl) ⟨rfl, by decide, by decide⟩ ?F Gk04.plain
    intro w K mg f0 h KX G hmg0 hw c
    have hmg : mg ("law" : PySem.Str) = some (.ref f0) := by
      have e : (HandSHeadRun.topDef (OpenLaw.row PySem.Challenge.rw_lastinrow_k04_refusals_apart).prog 26).name = ("law" : PySem.Str) := by kernel_rfl
      rw [← e]
      exact hmg0
    have Φ := Gk04.facts KX G hw c
    obtain ⟨fd, fD⟩ := Φ.d_law
    have e := hmg.symm.trans Φ.g_law
    cases e
    have b := L2.FunD.bindsA (ps := ["_law_script"]) fD fun _ _ _ _ _ _ us hl => match us, hl with | [_], _ => rfl
    exact ⟨fd, fun s v => b s [v] rfl, fun base _ _ => Gk04.fn_law Φ fD⟩
