import PyProof.Rows.All
import Wide.All
import OpenK.AllK
import Wide.FinOn
import HandS.ForMost
import HandS.ForExc
import HandS.ExcInit
import HandS.Defaults
import HandS.WordsExc
import HandS.Walk
import HandS.Zip
import HandS.Wide
import HandS.WideBits
import HandS.Deep
import HandS.TupAny
import HandS.SetFor
import HandS.TupLe
import HandS.TupLen
import HandS.WordsDict
import HandS.Steps
import HandS.Style
import HandS.Small
import HandS.MakeKw
import HandS.MakeKwOnly
import HandS.IsInst
import HandS.Conv
import KE.KExcInit
import KE.KExcIs
import PyProof.ExcBaseAll.ValueError
import PyProof.ExcBaseAll.IndexError
import PyProof.ExcBaseAll.LookupError
import PyProof.ExcBaseAll.OverflowError
import PyProof.ReprRoads
import HandS.Head0
import HandS.Head1
import HandS.Head2
import HandS.HeadEnd
import HandS.HeadHook1
import HandS.HeadHook2
import HandS.EndBits
import HandS.Words
import HandS.More
import HandS.SortInts
import HandS.TupSets
import HandS.Set
import HandS.SetBool
import HandS.DictComp
import KE.DataMinMax
import KE.SortData
import OpenK.KWalk
import HandS.SlotsOwn
import HandS.OwnEq
import KE.KDictZip
import PyProof.P3Eq
import PySem.Challenge.RW_lastinrow_k12_rows_and_plays_by_names
set_option Elab.async false
set_option linter.all false
set_option autoImplicit false
set_option maxRecDepth 100000
namespace CL
open PySem L2

/-- plain data: what a Python value is worth; cel i: the mutable object number i -/
inductive D where
  | non | bl (b : Bool) | int (i : Int) | str (x : Str)
  | lst (xs : List D) | tup (xs : List D) | dct (t : Bool) (kvs : List (D × D)) | ins (c : Str) (fs : List (Str × D))
  | cel (i : Nat) | ty (n : String)
  /-- an exception of the class c, its attributes -/
  | exc (c : Str) (fs : List (Str × D))
/-- the mutable objects by number; none: no longer mutable -/
abbrev Mem := List (Option D)
abbrev Env := List (Option D)
/-- how a piece of code ends: a value; an exception of the class c (by its name) with the field's value v; no word -/
inductive Rs (α : Type) where
  | ok (a : α) (μ : Mem) | ex (c : Str) (v : D) (μ : Mem) | no
abbrev M (α : Type) := Mem → Rs α
def Rs.bind {α β : Type} : Rs α → (α → M β) → Rs β
  | .ok a μ, k => k a μ
  | .ex c v μ, _ => .ex c v μ
  | .no, _ => .no

/-- where the mutable objects stand by number; the addresses that nobody may see (a list in the making, a dict that is walked) -/
structure Lc where
  cs : List Addr
  hid : List Addr
/-- what a mutable object holds; a tuple of one: the object stands still from now on, that is what it is -/
def mutD : D → Bool
  | .tup _ => false
  | _ => true
/-- a live mutable object stands at a, or it is hidden -/
def Live (ρ : Lc) (μ : Mem) (a : Addr) : Prop := a ∈ ρ.hid ∨ ∃ (i : Nat) (d : D), ρ.cs[i]? = some a ∧ μ[i]? = some (some d) ∧ mutD d = true
def kD : Key → D
  | .inl i => .int i
  | .inr x => .str x
/-- a list that stands still -/
def FzL (H : Hp) (Lv : Addr → Prop) (a : Addr) (vs : List V) : Prop := Rd H a (.lst vs) ∧ ¬ Lv a
def FzT (K : PySem.W.Frag) (H : Hp) (Lv : Addr → Prop) (a : Addr) (vs : List V) : Prop :=
  (H a = some (.tup vs) ∧ ¬ Lv a) ∨ vs = [] ∧ ∃ (o : Obj) (its : Array Value) (n : Nat), K.lookup a = some o ∧ o.cls = .type "tuple" ∧ o.data = .seq its n ∧ its.size ≤ sizeLine ∧ Vals vs its.toList
section
variable (K : PySem.W.Frag) (mg : Str → Option Value) (H : Hp) (Lv : Addr → Prop) (ρ : List Addr)
mutual
/-- v is worth d -/
inductive R : V → D → Prop
  | non : R .non .non
  | bl (b : Bool) : R (.bl b) (.bl b)
  | int (i : Int) : R (.int i) (.int i)
  | str (x : Str) : R (.str x) (.str x)
  | ty (n : String) : R (.ty n) (.ty n)
  | lst {a : Addr} {vs : List V} {ds : List D} : FzL H Lv a vs → RL vs ds → R (.ref a) (.lst ds)
  | tup {a : Addr} {vs : List V} {ds : List D} : FzT K H Lv a vs → RL vs ds → R (.ref a) (.tup ds)
  | dK {a : Addr} {kvs : List (Key × V)} {vs : List V} {ds : List D} {kds : List (D × D)} : Rd H a (.dK kvs) → ¬ Lv a → vs = kvs.map (·.2) → RL vs ds → kds = (kvs.map fun p => kD p.1).zip ds → R (.ref a) (.dct false kds)
  | dT {a : Addr} {kvs : List (List Key × V)} {vs : List V} {ds : List D} {kds : List (D × D)} : Rd H a (.dT kvs) → ¬ Lv a → vs = kvs.map (·.2) → RL vs ds → kds = (kvs.map fun p => D.tup (p.1.map kD)).zip ds → R (.ref a) (.dct true kds)
  | ins {a C dx : Addr} {fs : List (Str × V)} {vs : List V} {ds : List D} {c : Str} {fds : List (Str × D)} : H a = some (.ins C dx fs) → ¬ Lv a → mg c = some (.ref C) → vs = fs.map (·.2) → RL vs ds → fds = (fs.map (·.1)).zip ds → R (.ref a) (.ins c fds)
  | cel {a : Addr} {i : Nat} : ρ[i]? = some a → R (.ref a) (.cel i)
  | exc {a C dx : Addr} {fs : List (Str × V)} {vs : List V} {ds : List D} {c : Str} {fds : List (Str × D)} : H a = some (exo a C (some dx)) → ¬ Lv a → H dx = some (exd dx fs) → ¬ Lv dx → mg c = some (.ref C) → vs = fs.map (·.2) → RL vs ds → fds = (fs.map (·.1)).zip ds → R (.ref a) (.exc c fds)
inductive RL : List V → List D → Prop
  | nil : RL [] []
  | cons {v : V} {d : D} {vs : List V} {ds : List D} : R v d → RL vs ds → RL (v :: vs) (d :: ds)
end
/-- a live mutable object -/
def CellAt (a : Addr) : D → Prop
  | .lst ds => ∃ vs, H a = some (.lst vs) ∧ RL K mg H Lv ρ vs ds
  | .dct false kds => ∃ (kvs : List (Key × V)) (ds : List D), H a = some (.dK kvs) ∧ RL K mg H Lv ρ (kvs.map (·.2)) ds ∧ kds = (kvs.map fun p => kD p.1).zip ds
  | .dct true kds => ∃ (kvs : List (List Key × V)) (ds : List D), H a = some (.dT kvs) ∧ RL K mg H Lv ρ (kvs.map (·.2)) ds ∧ kds = (kvs.map fun p => D.tup (p.1.map kD)).zip ds
  | .ins c fds => ∃ C dx fs ds, H a = some (.ins C dx fs) ∧ H dx = some (.own a) ∧ ¬ Lv dx ∧ mg c = some (.ref C) ∧ RL K mg H Lv ρ (fs.map (·.2)) ds ∧ fds = (fs.map (·.1)).zip ds
  | .tup [x] => (∃ o, H a = some o) ∧ ¬ Lv a ∧ R K mg H Lv ρ (.ref a) x
  | _ => False
end

/-- a dict (it may be locked while it is walked) -/
def isD : HO → Bool
  | .dK _ => true
  | .dT _ => true
  | _ => false
/-- what stood as o stands, or it is a dict that is locked -/
def Kp (o : HO) (x : Option HO) : Prop := x = some o ∨ (isD o = true ∧ ∃ od, x = some (.frz od o))
/-- from (H, Lv, ρ) on: what is not live stands, no standing thing becomes live -/
structure Exx (H : Hp) (Lv : Addr → Prop) (ρ : List Addr) (H' : Hp) (Lv' : Addr → Prop) (ρ' : List Addr) : Prop where
  keep : ∀ a o, H a = some o → ¬ Lv a → Kp o (H' a)
  live : ∀ a o, H a = some o → Lv' a → Lv a
  pre : ∀ (i : Nat) (a : Addr), ρ[i]? = some a → ρ'[i]? = some a
theorem Exx.refl {H : Hp} {Lv : Addr → Prop} {ρ : List Addr} : Exx H Lv ρ H Lv ρ := ⟨fun _ _ h _ => .inl h, fun _ _ _ h => h, fun _ _ h => h⟩

section
variable {K : PySem.W.Frag} {mg : Str → Option Value} {H H' H1 H2 : Hp} {Lv Lv' L1 L2 : Addr → Prop} {ρ ρ' ρ1 ρ2 : List Addr}
theorem Exx.nl (e : Exx H Lv ρ H' Lv' ρ') {a : Addr} {o : HO} (h : H a = some o) (n : ¬ Lv a) : ¬ Lv' a := fun z => n (e.live a o h z)
theorem Exx.kept (e : Exx H Lv ρ H' Lv' ρ') {a : Addr} {o : HO} (h : H a = some o) (n : ¬ Lv a) (hd : isD o = false) : H' a = some o := by
  rcases e.keep a o h n with k | ⟨k, _⟩
  · exact k
  · rw [hd] at k
    exact nomatch k
theorem Exx.rd (e : Exx H Lv ρ H' Lv' ρ') {a : Addr} {u : HO} (h : Rd H a u) (n : ¬ Lv a) : Rd H' a u ∧ ¬ Lv' a := by
  rcases h with h | ⟨o, h⟩
  · rcases e.keep a _ h n with k | ⟨_, od, k⟩
    · exact ⟨.inl k, e.nl h n⟩
    · exact ⟨.inr ⟨od, k⟩, e.nl h n⟩
  · exact ⟨.inr ⟨o, e.kept h n rfl⟩, e.nl h n⟩
theorem FzL.mono (e : Exx H Lv ρ H' Lv' ρ') {a : Addr} {vs : List V} (h : FzL H Lv a vs) : FzL H' Lv' a vs := e.rd h.1 h.2
theorem FzT.mono (e : Exx H Lv ρ H' Lv' ρ') {a : Addr} {vs : List V} (h : FzT K H Lv a vs) : FzT K H' Lv' a vs := by
  rcases h with ⟨h, n⟩ | h
  · exact .inl ⟨e.kept h n rfl, e.nl h n⟩
  · exact .inr h
mutual
theorem R.mono (e : Exx H Lv ρ H' Lv' ρ') : ∀ {v : V} {d : D}, R K mg H Lv ρ v d → R K mg H' Lv' ρ' v d
  | _, _, .non => .non
  | _, _, .bl b => .bl b
  | _, _, .int i => .int i
  | _, _, .str x => .str x
  | _, _, .ty n => .ty n
  | _, _, .lst h r => .lst (h.mono e) (RL.mono e r)
  | _, _, .tup h r => .tup (h.mono e) (RL.mono e r)
  | _, _, .dK h n z r q => .dK (e.rd h n).1 (e.rd h n).2 z (RL.mono e r) q
  | _, _, .dT h n z r q => .dT (e.rd h n).1 (e.rd h n).2 z (RL.mono e r) q
  | _, _, .ins h n g z r q => .ins (e.kept h n rfl) (e.nl h n) g z (RL.mono e r) q
  | _, _, .cel h => .cel (e.pre _ _ h)
  | _, _, .exc h n h2 n2 g z r q => .exc (e.kept h n rfl) (e.nl h n) (e.kept h2 n2 rfl) (e.nl h2 n2) g z (RL.mono e r) q
theorem RL.mono (e : Exx H Lv ρ H' Lv' ρ') : ∀ {vs : List V} {ds : List D}, RL K mg H Lv ρ vs ds → RL K mg H' Lv' ρ' vs ds
  | _, _, .nil => .nil
  | _, _, .cons r t => .cons (R.mono e r) (RL.mono e t)
end
theorem Exx.trans (a : Exx H Lv ρ H1 L1 ρ1) (b : Exx H1 L1 ρ1 H2 L2 ρ2) : Exx H Lv ρ H2 L2 ρ2 where
  keep := fun x o h n => by
    rcases a.keep x o h n with k | ⟨hd, od, k⟩
    · exact b.keep x o k (a.nl h n)
    · exact .inr ⟨hd, od, b.kept k (a.nl h n) rfl⟩
  live := fun x o h l => by
    apply Classical.byContradiction
    intro n
    rcases a.keep x o h n with k | ⟨_, od, k⟩
    · exact a.nl h n (b.live x o k l)
    · exact a.nl h n (b.live x _ k l)
  pre := fun i x h => b.pre i x (a.pre i x h)
theorem RL.length : ∀ {vs : List V} {ds : List D}, RL K mg H Lv ρ vs ds → vs.length = ds.length
  | _, _, .nil => rfl
  | _, _, .cons _ t => congrArg (· + 1) (RL.length t)
theorem RL.get : ∀ {vs : List V} {ds : List D} {i : Nat} {d : D}, RL K mg H Lv ρ vs ds → ds[i]? = some d → ∃ v, vs[i]? = some v ∧ R K mg H Lv ρ v d
  | _, _, i, _, .nil, e => by simp at e
  | _, _, 0, d, .cons r _, e => by
    have e1 : _ = d := Option.some.inj (by simpa using e)
    subst e1
    exact ⟨_, rfl, r⟩
  | _, _, i + 1, d, .cons _ t, e => by
    obtain ⟨v, h1, h2⟩ := RL.get (i := i) (d := d) t (by simpa using e)
    exact ⟨v, by simpa using h1, h2⟩
theorem RL.getV : ∀ {vs : List V} {ds : List D} {i : Nat} {v : V}, RL K mg H Lv ρ vs ds → vs[i]? = some v → ∃ d, ds[i]? = some d ∧ R K mg H Lv ρ v d
  | _, _, i, _, .nil, e => by simp at e
  | _, _, 0, v, .cons r _, e => by
    have e1 : _ = v := Option.some.inj (by simpa using e)
    subst e1
    exact ⟨_, rfl, r⟩
  | _, _, i + 1, d, .cons _ t, e => by
    obtain ⟨v, h1, h2⟩ := RL.getV (i := i) (v := d) t (by simpa using e)
    exact ⟨v, by simpa using h1, h2⟩
theorem RL.append : ∀ {vs ws : List V} {ds es : List D}, RL K mg H Lv ρ vs ds → RL K mg H Lv ρ ws es → RL K mg H Lv ρ (vs ++ ws) (ds ++ es)
  | _, _, _, _, .nil, s => s
  | _, _, _, _, .cons r t, s => .cons r (RL.append t s)
theorem RL.take : ∀ {vs : List V} {ds : List D} (n : Nat), RL K mg H Lv ρ vs ds → RL K mg H Lv ρ (vs.take n) (ds.take n)
  | _, _, 0, _ => by simp; exact .nil
  | _, _, _ + 1, .nil => .nil
  | _, _, n + 1, .cons r t => .cons r (RL.take n t)
theorem RL.drop : ∀ {vs : List V} {ds : List D} (n : Nat), RL K mg H Lv ρ vs ds → RL K mg H Lv ρ (vs.drop n) (ds.drop n)
  | _, _, 0, r => r
  | _, _, _ + 1, .nil => .nil
  | _, _, n + 1, .cons _ t => RL.drop n t
theorem RL.set {v : V} {d : D} (r : R K mg H Lv ρ v d) : ∀ {vs : List V} {ds : List D} (i : Nat), RL K mg H Lv ρ vs ds → RL K mg H Lv ρ (vs.set i v) (ds.set i d)
  | _, _, _, .nil => .nil
  | _, _, 0, .cons _ t => .cons r t
  | _, _, i + 1, .cons q t => .cons q (RL.set r i t)
theorem RL.one {v : V} {d : D} (r : R K mg H Lv ρ v d) : RL K mg H Lv ρ [v] [d] := .cons r .nil
theorem RL.reverse : ∀ {vs : List V} {ds : List D}, RL K mg H Lv ρ vs ds → RL K mg H Lv ρ vs.reverse ds.reverse
  | _, _, .nil => .nil
  | _, _, .cons r t => by
    rw [List.reverse_cons, List.reverse_cons]
    exact RL.append (RL.reverse t) (.one r)
theorem CellAt.mono (e : Exx H Lv ρ H' Lv' ρ') {a : Addr} {d : D} (h : CellAt K mg H Lv ρ a d) (ha : mutD d = true → H' a = H a) : CellAt K mg H' Lv' ρ' a d := by
  cases d with
  | tup xs =>
    match xs, h with
    | [x], ⟨⟨o, h1⟩, h2, h3⟩ =>
      refine ⟨?_, e.nl h1 h2, h3.mono e⟩
      rcases e.keep a o h1 h2 with k | ⟨_, od, k⟩
      · exact ⟨_, k⟩
      · exact ⟨_, k⟩
  | lst ds => obtain ⟨vs, h1, h2⟩ := h; exact ⟨vs, (ha rfl).trans h1, h2.mono e⟩
  | dct t kds =>
    cases t with
    | false => obtain ⟨kvs, ds, h1, h2, h3⟩ := h; exact ⟨kvs, ds, (ha rfl).trans h1, h2.mono e, h3⟩
    | true => obtain ⟨kvs, ds, h1, h2, h3⟩ := h; exact ⟨kvs, ds, (ha rfl).trans h1, h2.mono e, h3⟩
  | ins c fds => obtain ⟨C, dx, fs, ds, h1, h2, h3, h4, h5, h6⟩ := h; exact ⟨C, dx, fs, ds, (ha rfl).trans h1, e.kept h2 h3 rfl, e.nl h2 h3, h4, h5.mono e, h6⟩
  | _ => exact h
end

/-- the world: the cells stand as the memory says -/
structure Wd (K : PySem.W.Frag) (mg : Str → Option Value) (H : Hp) (ρ : Lc) (μ : Mem) : Prop where
  len : ρ.cs.length = μ.length
  nd : ρ.cs.Nodup
  trk : ∀ a ∈ ρ.cs, ∃ o, H a = some o
  hid : ∀ a ∈ ρ.hid, (∃ o, H a = some o ∧ ∀ xs, o ≠ .tup xs) ∧ a ∉ ρ.cs
  cell : ∀ (i : Nat) (d : D) (a : Addr), μ[i]? = some (some d) → ρ.cs[i]? = some a → CellAt K mg H (Live ρ μ) ρ.cs a d
abbrev Rm (K : PySem.W.Frag) (mg : Str → Option Value) (H : Hp) (ρ : Lc) (μ : Mem) : V → D → Prop := R K mg H (Live ρ μ) ρ.cs
abbrev RLm (K : PySem.W.Frag) (mg : Str → Option Value) (H : Hp) (ρ : Lc) (μ : Mem) : List V → List D → Prop := RL K mg H (Live ρ μ) ρ.cs
/-- from one world to a later one -/
structure Exm (H : Hp) (ρ : Lc) (μ : Mem) (H' : Hp) (ρ' : Lc) (μ' : Mem) : Prop where
  x : Exx H (Live ρ μ) ρ.cs H' (Live ρ' μ') ρ'.cs
  hs : ρ'.hid = ρ.hid
  ha : ∀ a ∈ ρ.hid, H' a = H a
theorem Exm.refl {H : Hp} {ρ : Lc} {μ : Mem} : Exm H ρ μ H ρ μ := ⟨Exx.refl, rfl, fun _ _ => rfl⟩
theorem Exm.trans {H H1 H2 : Hp} {ρ ρ1 ρ2 : Lc} {μ μ1 μ2 : Mem} (a : Exm H ρ μ H1 ρ1 μ1) (b : Exm H1 ρ1 μ1 H2 ρ2 μ2) : Exm H ρ μ H2 ρ2 μ2 :=
  ⟨a.x.trans b.x, b.hs.trans a.hs, fun x h => (b.ha x (by rw [a.hs]; exact h)).trans (a.ha x h)⟩
/-- the slots -/
structure REnv (K : PySem.W.Frag) (mg : Str → Option Value) (H : Hp) (ρ : Lc) (μ : Mem) (σ : L2.St) (env : Env) : Prop where
  len : σ.length = env.length
  at_ : ∀ (i : Nat) (d : D), env[i]? = some (some d) → ∃ v, σ[i]? = some (some v) ∧ Rm K mg H ρ μ v d
section
variable {K : PySem.W.Frag} {mg : Str → Option Value} {H H' H1 : Hp} {ρ ρ' ρ1 : Lc} {μ μ' μ1 : Mem} {σ : L2.St} {env : Env}
theorem REnv.mono (e : Exm H ρ μ H' ρ' μ') (r : REnv K mg H ρ μ σ env) : REnv K mg H' ρ' μ' σ env :=
  ⟨r.len, fun i d h => let ⟨v, h1, h2⟩ := r.at_ i d h; ⟨v, h1, h2.mono e.x⟩⟩
theorem REnv.set (r : REnv K mg H ρ μ σ env) (i : Nat) {v : V} {d : D} (h : Rm K mg H ρ μ v d) : REnv K mg H ρ μ (σ.set i (some v)) (env.set i (some d)) := by
  refine ⟨by simp [r.len], fun j e he => ?_⟩
  by_cases hj : i = j
  · subst hj
    have hl : i < env.length := by
      have := (List.getElem?_eq_some_iff.mp he).1
      simpa using this
    rw [List.getElem?_set_self hl] at he
    have e1 := Option.some.inj (Option.some.inj he)
    subst e1
    exact ⟨v, List.getElem?_set_self (by rw [r.len]; exact hl), h⟩
  · rw [List.getElem?_set_ne hj] at he
    obtain ⟨w, h1, h2⟩ := r.at_ j e he
    exact ⟨w, by rw [List.getElem?_set_ne hj]; exact h1, h2⟩
end

/-- what is wanted behind: r the mirror's result -/
def Post (K : PySem.W.Frag) (mg : Str → Option Value) (r : Rs D) (H : Hp) (ρ : Lc) (μ : Mem) (Q : VK) (E : XK) : Prop :=
  match r with
  | .ok d μ' => ∀ v H' ρ', Exm H ρ μ H' ρ' μ' → Wd K mg H' ρ' μ' → Rm K mg H' ρ' μ' v d → Q v H'
  | .ex c x μ' => ∀ cls od H' ρ', Exm H ρ μ H' ρ' μ' → Wd K mg H' ρ' μ' → (∃ C dd f y, mg c = some (.ref C) ∧ cls = .ref C ∧ od = some dd ∧ H' dd = some (.xd [(f, y)]) ∧ Rm K mg H' ρ' μ' y x) → E cls od H'
  | .no => False
def PostL (K : PySem.W.Frag) (mg : Str → Option Value) (r : Rs (List D)) (H : Hp) (ρ : Lc) (μ : Mem) (Q : List V → Hp → Prop) (E : XK) : Prop :=
  match r with
  | .ok d μ' => ∀ v H' ρ', Exm H ρ μ H' ρ' μ' → Wd K mg H' ρ' μ' → RLm K mg H' ρ' μ' v d → Q v H'
  | .ex c x μ' => ∀ cls od H' ρ', Exm H ρ μ H' ρ' μ' → Wd K mg H' ρ' μ' → (∃ C dd f y, mg c = some (.ref C) ∧ cls = .ref C ∧ od = some dd ∧ H' dd = some (.xd [(f, y)]) ∧ Rm K mg H' ρ' μ' y x) → E cls od H'
  | .no => False
def PostB (K : PySem.W.Frag) (mg : Str → Option Value) (r : Rs Bool) (H : Hp) (ρ : Lc) (μ : Mem) (Q : Bool → Hp → Prop) (E : XK) : Prop :=
  match r with
  | .ok b μ' => ∀ H' ρ', Exm H ρ μ H' ρ' μ' → Wd K mg H' ρ' μ' → Q b H'
  | .ex c x μ' => ∀ cls od H' ρ', Exm H ρ μ H' ρ' μ' → Wd K mg H' ρ' μ' → (∃ C dd f y, mg c = some (.ref C) ∧ cls = .ref C ∧ od = some dd ∧ H' dd = some (.xd [(f, y)]) ∧ Rm K mg H' ρ' μ' y x) → E cls od H'
  | .no => False
abbrev ME := Env → M D
abbrev MB := Env → M Bool
abbrev ML := Env → M (List D)
/-- an expression's reading by its mirror -/
def tM (K : PySem.W.Frag) (mg : Str → Option Value) (W : WX) (m : ME) : TE := fun σ H Q => ∃ ρ μ env, Wd K mg H ρ μ ∧ REnv K mg H ρ μ σ env ∧ Post K mg (m env μ) H ρ μ Q (fun c od H' => W c od σ H')
def tMB (K : PySem.W.Frag) (mg : Str → Option Value) (W : WX) (m : MB) : TT := fun σ H Q => ∃ ρ μ env, Wd K mg H ρ μ ∧ REnv K mg H ρ μ σ env ∧ PostB K mg (m env μ) H ρ μ Q (fun c od H' => W c od σ H')
def tML (K : PySem.W.Frag) (mg : Str → Option Value) (W : WX) (m : ML) : TA := fun σ H Q => ∃ ρ μ env, Wd K mg H ρ μ ∧ REnv K mg H ρ μ σ env ∧ PostL K mg (m env μ) H ρ μ Q (fun c od H' => W c od σ H')

section
variable {K : PySem.W.Frag} {mg : Str → Option Value} {H H1 : Hp} {ρ ρ1 : Lc} {μ μ1 : Mem} {σ : L2.St} {env : Env} {W : WX} {Q : VK} {E : XK}
theorem Post.base {r : Rs D} (e : Exm H ρ μ H1 ρ1 μ1) (p : Post K mg r H ρ μ Q E) : Post K mg r H1 ρ1 μ1 Q E := by
  cases r with
  | ok d μ' => exact fun v H' ρ' e' => p v H' ρ' (e.trans e')
  | ex c x μ' => exact fun cls od H' ρ' e' => p cls od H' ρ' (e.trans e')
  | no => exact p
theorem PostL.base {r : Rs (List D)} {Q : List V → Hp → Prop} (e : Exm H ρ μ H1 ρ1 μ1) (p : PostL K mg r H ρ μ Q E) : PostL K mg r H1 ρ1 μ1 Q E := by
  cases r with
  | ok d μ' => exact fun v H' ρ' e' => p v H' ρ' (e.trans e')
  | ex c x μ' => exact fun cls od H' ρ' e' => p cls od H' ρ' (e.trans e')
  | no => exact p
theorem PostB.base {r : Rs Bool} {Q : Bool → Hp → Prop} (e : Exm H ρ μ H1 ρ1 μ1) (p : PostB K mg r H ρ μ Q E) : PostB K mg r H1 ρ1 μ1 Q E := by
  cases r with
  | ok d μ' => exact fun H' ρ' e' => p H' ρ' (e.trans e')
  | ex c x μ' => exact fun cls od H' ρ' e' => p cls od H' ρ' (e.trans e')
  | no => exact p
/-- the value as it is, at the heap as it is -/
theorem Post.ok {d : D} {v : V} (w : Wd K mg H ρ μ) (p : Post K mg (.ok d μ) H ρ μ Q E) (r : Rm K mg H ρ μ v d) : Q v H := p v H ρ Exm.refl w r
/-- one after another -/
theorem post_bind {r : Rs D} {k : D → M D} (p : Post K mg (r.bind k) H ρ μ Q E) :
    Post K mg r H ρ μ (fun v H1 => ∃ d ρ1 μ1, Exm H ρ μ H1 ρ1 μ1 ∧ Wd K mg H1 ρ1 μ1 ∧ Rm K mg H1 ρ1 μ1 v d ∧ Post K mg (k d μ1) H1 ρ1 μ1 Q E) E := by
  cases r with
  | ok d μ' => exact fun v H' ρ' e w r => ⟨d, ρ', μ', e, w, r, Post.base e p⟩
  | ex c x μ' => exact p
  | no => exact p
theorem post_bindL {r : Rs D} {k : D → M (List D)} {Q : List V → Hp → Prop} (p : PostL K mg (r.bind k) H ρ μ Q E) :
    Post K mg r H ρ μ (fun v H1 => ∃ d ρ1 μ1, Exm H ρ μ H1 ρ1 μ1 ∧ Wd K mg H1 ρ1 μ1 ∧ Rm K mg H1 ρ1 μ1 v d ∧ PostL K mg (k d μ1) H1 ρ1 μ1 Q E) E := by
  cases r with
  | ok d μ' => exact fun v H' ρ' e w r => ⟨d, ρ', μ', e, w, r, PostL.base e p⟩
  | ex c x μ' => exact p
  | no => exact p
theorem postL_bindL {r : Rs (List D)} {k : List D → M (List D)} {Q : List V → Hp → Prop} (p : PostL K mg (r.bind k) H ρ μ Q E) :
    PostL K mg r H ρ μ (fun v H1 => ∃ d ρ1 μ1, Exm H ρ μ H1 ρ1 μ1 ∧ Wd K mg H1 ρ1 μ1 ∧ RLm K mg H1 ρ1 μ1 v d ∧ PostL K mg (k d μ1) H1 ρ1 μ1 Q E) E := by
  cases r with
  | ok d μ' => exact fun v H' ρ' e w r => ⟨d, ρ', μ', e, w, r, PostL.base e p⟩
  | ex c x μ' => exact p
  | no => exact p
theorem postL_bind {r : Rs (List D)} {k : List D → M D} (p : Post K mg (r.bind k) H ρ μ Q E) :
    PostL K mg r H ρ μ (fun v H1 => ∃ d ρ1 μ1, Exm H ρ μ H1 ρ1 μ1 ∧ Wd K mg H1 ρ1 μ1 ∧ RLm K mg H1 ρ1 μ1 v d ∧ Post K mg (k d μ1) H1 ρ1 μ1 Q E) E := by
  cases r with
  | ok d μ' => exact fun v H' ρ' e w r => ⟨d, ρ', μ', e, w, r, Post.base e p⟩
  | ex c x μ' => exact p
  | no => exact p
theorem post_bindB {r : Rs D} {k : D → M Bool} {Q : Bool → Hp → Prop} (p : PostB K mg (r.bind k) H ρ μ Q E) :
    Post K mg r H ρ μ (fun v H1 => ∃ d ρ1 μ1, Exm H ρ μ H1 ρ1 μ1 ∧ Wd K mg H1 ρ1 μ1 ∧ Rm K mg H1 ρ1 μ1 v d ∧ PostB K mg (k d μ1) H1 ρ1 μ1 Q E) E := by
  cases r with
  | ok d μ' => exact fun v H' ρ' e w r => ⟨d, ρ', μ', e, w, r, PostB.base e p⟩
  | ex c x μ' => exact p
  | no => exact p
theorem postB_bindB {r : Rs Bool} {k : Bool → M Bool} {Q : Bool → Hp → Prop} (p : PostB K mg (r.bind k) H ρ μ Q E) :
    PostB K mg r H ρ μ (fun b H1 => ∃ ρ1 μ1, Exm H ρ μ H1 ρ1 μ1 ∧ Wd K mg H1 ρ1 μ1 ∧ PostB K mg (k b μ1) H1 ρ1 μ1 Q E) E := by
  cases r with
  | ok d μ' => exact fun H' ρ' e w => ⟨ρ', μ', e, w, PostB.base e p⟩
  | ex c x μ' => exact p
  | no => exact p
theorem postB_bind {r : Rs Bool} {k : Bool → M D} (p : Post K mg (r.bind k) H ρ μ Q E) :
    PostB K mg r H ρ μ (fun b H1 => ∃ ρ1 μ1, Exm H ρ μ H1 ρ1 μ1 ∧ Wd K mg H1 ρ1 μ1 ∧ Post K mg (k b μ1) H1 ρ1 μ1 Q E) E := by
  cases r with
  | ok d μ' => exact fun H' ρ' e w => ⟨ρ', μ', e, w, Post.base e p⟩
  | ex c x μ' => exact p
  | no => exact p
theorem Post.imp {r : Rs D} {Q' : VK} {E' : XK} (p : Post K mg r H ρ μ Q E) (h : ∀ v H', Q v H' → Q' v H') (hE : ∀ c o H', E c o H' → E' c o H') : Post K mg r H ρ μ Q' E' := by
  cases r with
  | ok d μ' => exact fun v H' ρ' e w r => h _ _ (p v H' ρ' e w r)
  | ex c x μ' => exact fun cls od H' ρ' e w r => hE _ _ _ (p cls od H' ρ' e w r)
  | no => exact p
end
/-- a weaker reading -/
theorem PE.imp {X : Cx} {e : Expr} {t t' : TE} (h : PE X e t) (i : ∀ σ H Q, t' σ H Q → t σ H Q) : PE X e t' := ⟨fun pins s σ H Q I q => h.run pins s σ H Q I (i σ H Q q)⟩
theorem PT.imp {X : Cx} {e : Expr} {t t' : TT} (h : PT X e t) (i : ∀ σ H Q, t' σ H Q → t σ H Q) : PT X e t' := ⟨fun pins s σ H Q I q => h.run pins s σ H Q I (i σ H Q q)⟩
theorem PW.imp {X : Cx} {e : Expr} {t t' : TT} (h : PW X e t) (i : ∀ σ H Q, t' σ H Q → t σ H Q) : PW X e t' := ⟨fun wh pins s σ H Q I q => h.run wh pins s σ H Q I (i σ H Q q)⟩
theorem PA.imp {X : Cx} {e : List Expr} {t t' : TA} (h : PA X e t) (i : ∀ σ H Q, t' σ H Q → t σ H Q) : PA X e t' := ⟨fun pos pins s σ H Q I q => h.run pos pins s σ H Q I (i σ H Q q)⟩
theorem PS.imp {X : Cx} {e : Stmt} {t t' : TS} (h : PS X e t) (i : ∀ D σ H, t' D σ H → t D σ H) : PS X e t' := ⟨fun pins s σ H D I q => h.run pins s σ H D I (i D σ H q)⟩
theorem PSs.imp {X : Cx} {e : List Stmt} {t t' : TS} (h : PSs X e t) (i : ∀ D σ H, t' D σ H → t D σ H) : PSs X e t' := ⟨fun pins s σ H D I q => h.run pins s σ H D I (i D σ H q)⟩

/-- the expression does what its mirror says -/
abbrev SE (X : Cx) (W : WX) (e : Expr) (m : ME) : Prop := PE X e (tM X.K X.mg W m)
abbrev ST (X : Cx) (W : WX) (e : Expr) (m : MB) : Prop := PT X e (tMB X.K X.mg W m)
abbrev SW (X : Cx) (W : WX) (e : Expr) (m : MB) : Prop := PW X e (tMB X.K X.mg W m)
abbrev SA (X : Cx) (W : WX) (es : List Expr) (m : ML) : Prop := PA X es (tML X.K X.mg W m)

def mVar (i : Nat) : ME := fun env μ => match env[i]? with
  | some (some d) => .ok d μ
  | _ => .no
def mC (d : D) : ME := fun _ μ => .ok d μ
def mBin (g : D → D → M D) (a b : ME) : ME := fun env μ => (a env μ).bind fun x μ1 => (b env μ1).bind fun y => g x y
def mUn (g : D → M D) (a : ME) : ME := fun env μ => (a env μ).bind g
def mNil : ML := fun _ μ => .ok [] μ
def mCons (a : ME) (r : ML) : ML := fun env μ => (a env μ).bind fun x μ1 => (r env μ1).bind fun xs μ2 => .ok (x :: xs) μ2
def mCall (f : List D → M D) (a : ML) : ME := fun env μ => (a env μ).bind f
def mIf (c : MB) (a b : ME) : ME := fun env μ => (c env μ).bind fun t μ1 => if t = true then a env μ1 else b env μ1
def bNot (a : MB) : MB := fun env μ => (a env μ).bind fun t μ1 => .ok (!t) μ1
def bAnd (a b : MB) : MB := fun env μ => (a env μ).bind fun t μ1 => if t = true then b env μ1 else .ok false μ1
def bOr (a b : MB) : MB := fun env μ => (a env μ).bind fun t μ1 => if t = true then .ok true μ1 else b env μ1
/-- a bool as a test -/
def asB : D → M Bool
  | .bl b, μ => .ok b μ
  | _, _ => .no
def bVal (a : ME) : MB := fun env μ => (a env μ).bind asB
/-- .. as values (bools) -/
def mNot (a : ME) : ME := fun env μ => (a env μ).bind fun x μ1 => match x with
  | .bl b => .ok (.bl (!b)) μ1
  | _ => .no
def mAnd (a b : ME) : ME := fun env μ => (a env μ).bind fun x μ1 => match x with
  | .bl c => if c = true then b env μ1 else .ok (.bl false) μ1
  | _ => .no
def mOr (a b : ME) : ME := fun env μ => (a env μ).bind fun x μ1 => match x with
  | .bl c => if c = true then .ok (.bl true) μ1 else b env μ1
  | _ => .no

/-- an operation by values and its mirror -/
def OpM (K : PySem.W.Frag) (mg : Str → Option Value) (r : R2) (g : D → D → M D) : Prop :=
  ∀ (H : Hp) (ρ : Lc) (μ : Mem) (x y : V) (a b : D) (Q : VK) (E : XK), Wd K mg H ρ μ → Rm K mg H ρ μ x a → Rm K mg H ρ μ y b → Post K mg (g a b μ) H ρ μ Q E → r x y H Q
def CallM (K : PySem.W.Frag) (mg : Str → Option Value) (r : List V → Hp → VK → Prop) (g : List D → M D) : Prop :=
  ∀ (H : Hp) (ρ : Lc) (μ : Mem) (vs : List V) (ds : List D) (Q : VK) (E : XK), Wd K mg H ρ μ → RLm K mg H ρ μ vs ds → Post K mg (g ds μ) H ρ μ Q E → r vs H Q

section
variable {X : Cx} {W : WX} {a b e : Expr} {es : List Expr} {pos : Pos} {ma mb : ME} {ml : ML}
theorem se_var {i : Nat} {x : Str} (hN : X.N[i]? = some x := by rfl) (hv : Vis X.env.scope x := by first | exact Or.inl rfl | exact Or.inr (Or.inl rfl) | exact Or.inr (Or.inr rfl)) (hd : (x == ("__debug__" : Str)) = false := by decide)
    (hcd : (x == ("__classdict__" : Str)) = false := by decide) : SE X W (.Name x pos) (mVar i) := by
  refine PE.imp (pe_var hN hv hd hcd) fun σ H Q ⟨ρ, μ, env, w, r, p⟩ => ?_
  unfold mVar at p
  cases h : env[i]? with
  | none => rw [h] at p; exact False.elim p
  | some o =>
    rw [h] at p
    cases o with
    | none => exact False.elim p
    | some d =>
      obtain ⟨v, h1, h2⟩ := r.at_ i d h
      exact ⟨v, h1, Post.ok w p h2⟩
theorem se_c {v : V} {d : D} (h : PE X e (tC v)) (r : ∀ H Lv ρ, R X.K X.mg H Lv ρ v d) : SE X W e (mC d) :=
  PE.imp h fun σ H Q ⟨ρ, μ, env, w, _, p⟩ => Post.ok w p (r _ _ _)
theorem se_int {i : Int} {j : Nat} : SE X W (.Constant (.int i) j pos) (mC (.int i)) := se_c pe_int fun _ _ _ => .int i
theorem se_bl {i : Bool} {j : Nat} : SE X W (.Constant (.bool i) j pos) (mC (.bl i)) := se_c pe_bl fun _ _ _ => .bl i
theorem se_non {j : Nat} : SE X W (.Constant .none j pos) (mC .non) := se_c pe_non fun _ _ _ => .non
theorem se_str {x : Str} {j : Nat} : SE X W (.Constant (.str x) j pos) (mC (.str x)) := se_c pe_str fun _ _ _ => .str x
theorem se_bin {op : Operator} {r : R2} {g : D → D → M D} (ho : OpR X (binaryOp op) r) (hg : OpM X.K X.mg r g) (ha : SE X W a ma) (hb : SE X W b mb) : SE X W (.BinOp a op b pos) (mBin g ma mb) := by
  refine PE.imp (pe_op ho ha hb) fun σ H Q ⟨ρ, μ, env, w, re, p⟩ => ?_
  refine ⟨ρ, μ, env, w, re, Post.imp (post_bind p) (fun v H1 ⟨d, ρ1, μ1, e1, w1, r1, p1⟩ => ?_) fun _ _ _ z => z⟩
  refine ⟨ρ1, μ1, env, w1, re.mono e1, Post.imp (post_bind p1) (fun v2 H2 ⟨d2, ρ2, μ2, e2, w2, r2, p2⟩ => ?_) fun _ _ _ z => z⟩
  exact hg H2 ρ2 μ2 v v2 d d2 Q _ w2 (r1.mono e2.x) r2 p2
theorem se_cmpR {op : CmpOp} {r : R2} {g : D → D → M D} (ho : OpR X (compareOp op) r) (hg : OpM X.K X.mg r g) (ha : SE X W a ma) (hb : SE X W b mb) (hm : behindInMarks op b = false) : SE X W (.Compare a [op] [b] pos) (mBin g ma mb) := by
  refine PE.imp (pe_cmpR ho ha hb hm) fun σ H Q ⟨ρ, μ, env, w, re, p⟩ => ?_
  refine ⟨ρ, μ, env, w, re, Post.imp (post_bind p) (fun v H1 ⟨d, ρ1, μ1, e1, w1, r1, p1⟩ => ?_) fun _ _ _ z => z⟩
  refine ⟨ρ1, μ1, env, w1, re.mono e1, Post.imp (post_bind p1) (fun v2 H2 ⟨d2, ρ2, μ2, e2, w2, r2, p2⟩ => ?_) fun _ _ _ z => z⟩
  exact hg H2 ρ2 μ2 v v2 d d2 Q _ w2 (r1.mono e2.x) r2 p2
theorem sa_nil : SA X W [] mNil := PA.imp pa_nil fun σ H Q ⟨ρ, μ, env, w, _, p⟩ => p [] H ρ Exm.refl w .nil
theorem sa_cons (ha : SE X W e ma) (hr : SA X W es ml) (hs : starEach (e :: es) X.env = (false, eval e X.env) :: starEach es X.env := by rfl) : SA X W (e :: es) (mCons ma ml) := by
  refine PA.imp (pa_cons ha hr hs) fun σ H Q ⟨ρ, μ, env, w, re, p⟩ => ?_
  refine ⟨ρ, μ, env, w, re, Post.imp (post_bindL p) (fun v H1 ⟨d, ρ1, μ1, e1, w1, r1, p1⟩ => ?_) fun _ _ _ z => z⟩
  refine ⟨ρ1, μ1, env, w1, re.mono e1, ?_⟩
  have p2 := postL_bindL p1
  cases h : ml env μ1 with
  | ok ds μ2 =>
    rw [h] at p2
    intro vs H2 ρ2 e2 w2 r2
    obtain ⟨ds2, ρ3, μ3, e3, w3, r3, p3⟩ := p2 vs H2 ρ2 e2 w2 r2
    exact p3 (v :: vs) H2 ρ3 Exm.refl w3 (.cons (r1.mono e3.x) r3)
  | ex c x μ2 => rw [h] at p2; exact p2
  | no => rw [h] at p2; exact p2
theorem sb_val (h : SE X W e ma) (he : ∀ whole, isTrue e X.env whole = (do let v ← whole; standAt e.pos; holding [v] (truthy v)) := by intro _; rfl) : ST X W e (bVal ma) := by
  refine PT.imp (pt_val h he) fun σ H Q ⟨ρ, μ, env, w, re, p⟩ => ?_
  refine ⟨ρ, μ, env, w, re, Post.imp (post_bindB p) (fun v H1 ⟨d, ρ1, μ1, e1, w1, r1, p1⟩ => ?_) fun _ _ _ z => z⟩
  cases r1 with
  | bl b => exact ⟨b, rfl, p1 H1 ρ1 Exm.refl w1⟩
  | _ => exact False.elim p1
/-- a comparison as a test -/
theorem sb_cmpR {op : CmpOp} {r : R2} {g : D → D → M D} (ho : OpR X (compareOp op) r) (hg : OpM X.K X.mg r g) (ha : SE X W a ma) (hb : SE X W b mb) (hm : behindInMarks op b = false) : ST X W (.Compare a [op] [b] pos) (bVal (mBin g ma mb)) := by
  refine PT.imp (pt_cmpR ho ha hb hm) fun σ H Q ⟨ρ, μ, env, w, re, p⟩ => ?_
  have p' := post_bindB p
  refine ⟨ρ, μ, env, w, re, Post.imp (post_bind p') (fun v H1 ⟨d, ρ1, μ1, e1, w1, r1, p1⟩ => ?_) fun _ _ _ z => z⟩
  refine ⟨ρ1, μ1, env, w1, re.mono e1, Post.imp (post_bind p1) (fun v2 H2 ⟨d2, ρ2, μ2, e2, w2, r2, p2⟩ => ?_) fun _ _ _ z => z⟩
  refine hg H2 ρ2 μ2 v v2 d d2 _ _ w2 (r1.mono e2.x) r2 (Post.imp p2 (fun v3 H3 ⟨d3, ρ3, μ3, e3, w3, r3, p3⟩ => ?_) fun _ _ _ z => z)
  cases r3 with
  | bl b => exact ⟨b, rfl, p3 H3 ρ3 Exm.refl w3⟩
  | _ => exact False.elim p3
theorem sb_not {ma : MB} (ha : ST X W a ma) : ST X W (.UnaryOp .Not a pos) (bNot ma) := by
  refine PT.imp (pt_not ha) fun σ H Q ⟨ρ, μ, env, w, re, p⟩ => ?_
  refine ⟨ρ, μ, env, w, re, ?_⟩
  have p1 := postB_bindB p
  cases h : ma env μ with
  | ok b μ1 =>
    rw [h] at p1
    intro H1 ρ1 e1 w1
    obtain ⟨ρ2, μ2, e2, w2, p2⟩ := p1 H1 ρ1 e1 w1
    exact p2 H1 ρ2 Exm.refl w2
  | ex c x μ2 => rw [h] at p1; exact p1
  | no => rw [h] at p1; exact p1
theorem sw_and1 {ma : MB} (ha : ST X W a ma) : SW X W (.BoolOp .And [a] pos) ma := pw_and1 ha
theorem sw_or1 {ma : MB} (ha : ST X W a ma) : SW X W (.BoolOp .Or [a] pos) ma := pw_or1 ha
theorem PostB.imp {K : PySem.W.Frag} {mg : Str → Option Value} {H : Hp} {ρ : Lc} {μ : Mem} {E E' : XK} {r : Rs Bool} {Q Q' : Bool → Hp → Prop} (p : PostB K mg r H ρ μ Q E) (h : ∀ v H', Q v H' → Q' v H') (hE : ∀ c o H', E c o H' → E' c o H') : PostB K mg r H ρ μ Q' E' := by
  cases r with
  | ok d μ' => exact fun H' ρ' e w => h _ _ (p H' ρ' e w)
  | ex c x μ' => exact fun cls od H' ρ' e w r => hE _ _ _ (p cls od H' ρ' e w r)
  | no => exact p
theorem sw_and {rest : List Expr} {ma mb : MB} (ha : ST X W a ma) (hb : SW X W (.BoolOp .And (b :: rest) pos) mb) : SW X W (.BoolOp .And (a :: b :: rest) pos) (bAnd ma mb) := by
  refine PW.imp (pw_and ha hb) fun σ H Q ⟨ρ, μ, env, w, re, p⟩ => ?_
  refine ⟨ρ, μ, env, w, re, PostB.imp (postB_bindB p) (fun t H1 ⟨ρ1, μ1, e1, w1, p1⟩ => ?_) fun _ _ _ z => z⟩
  cases t with
  | true => exact ⟨ρ1, μ1, env, w1, re.mono e1, p1⟩
  | false => exact p1 H1 ρ1 Exm.refl w1
theorem sw_or {rest : List Expr} {ma mb : MB} (ha : ST X W a ma) (hb : SW X W (.BoolOp .Or (b :: rest) pos) mb) : SW X W (.BoolOp .Or (a :: b :: rest) pos) (bOr ma mb) := by
  refine PW.imp (pw_or ha hb) fun σ H Q ⟨ρ, μ, env, w, re, p⟩ => ?_
  refine ⟨ρ, μ, env, w, re, PostB.imp (postB_bindB p) (fun t H1 ⟨ρ1, μ1, e1, w1, p1⟩ => ?_) fun _ _ _ z => z⟩
  cases t with
  | true => exact p1 H1 ρ1 Exm.refl w1
  | false => exact ⟨ρ1, μ1, env, w1, re.mono e1, p1⟩
theorem se_one {op : BoolOp} (h : SE X W a ma) : SE X W (.BoolOp op [a] pos) ma := pe_one h
theorem se_and {rest : List Expr} (ha : SE X W a ma) (hb : SE X W (.BoolOp .And (b :: rest) pos) mb) : SE X W (.BoolOp .And (a :: b :: rest) pos) (mAnd ma mb) := by
  refine PE.imp (pe_and ha hb) fun σ H Q ⟨ρ, μ, env, w, re, p⟩ => ?_
  refine ⟨ρ, μ, env, w, re, Post.imp (post_bind p) (fun v H1 ⟨d, ρ1, μ1, e1, w1, r1, p1⟩ => ?_) fun _ _ _ z => z⟩
  cases r1 with
  | bl c =>
    cases c with
    | true => exact ⟨true, rfl, ρ1, μ1, env, w1, re.mono e1, p1⟩
    | false => exact ⟨false, rfl, Post.ok w1 p1 (.bl false)⟩
  | _ => exact False.elim p1
theorem se_or {rest : List Expr} (ha : SE X W a ma) (hb : SE X W (.BoolOp .Or (b :: rest) pos) mb) : SE X W (.BoolOp .Or (a :: b :: rest) pos) (mOr ma mb) := by
  refine PE.imp (pe_or ha hb) fun σ H Q ⟨ρ, μ, env, w, re, p⟩ => ?_
  refine ⟨ρ, μ, env, w, re, Post.imp (post_bind p) (fun v H1 ⟨d, ρ1, μ1, e1, w1, r1, p1⟩ => ?_) fun _ _ _ z => z⟩
  cases r1 with
  | bl c =>
    cases c with
    | true => exact ⟨true, rfl, Post.ok w1 p1 (.bl true)⟩
    | false => exact ⟨false, rfl, ρ1, μ1, env, w1, re.mono e1, p1⟩
  | _ => exact False.elim p1
theorem se_not (ha : SE X W a ma) : SE X W (.UnaryOp .Not a pos) (mNot ma) := by
  refine PE.imp (pe_not ha) fun σ H Q ⟨ρ, μ, env, w, re, p⟩ => ?_
  refine ⟨ρ, μ, env, w, re, Post.imp (post_bind p) (fun v H1 ⟨d, ρ1, μ1, e1, w1, r1, p1⟩ => ?_) fun _ _ _ z => z⟩
  cases r1 with
  | bl c => exact ⟨c, rfl, Post.ok w1 p1 (.bl (!c))⟩
  | _ => exact False.elim p1
theorem se_if {c : Expr} {mc : MB} (hc : ST X W c mc) (ha : SE X W a ma) (hb : SE X W b mb) : SE X W (.IfExp c a b pos) (mIf mc ma mb) := by
  refine PE.imp (pe_ifExp hc ha hb) fun σ H Q ⟨ρ, μ, env, w, re, p⟩ => ?_
  refine ⟨ρ, μ, env, w, re, PostB.imp (postB_bind p) (fun t H1 ⟨ρ1, μ1, e1, w1, p1⟩ => ?_) fun _ _ _ z => z⟩
  cases t with
  | true => exact ⟨ρ1, μ1, env, w1, re.mono e1, p1⟩
  | false => exact ⟨ρ1, μ1, env, w1, re.mono e1, p1⟩
theorem PostL.imp {K : PySem.W.Frag} {mg : Str → Option Value} {H : Hp} {ρ : Lc} {μ : Mem} {E E' : XK} {r : Rs (List D)} {Q Q' : List V → Hp → Prop} (p : PostL K mg r H ρ μ Q E) (h : ∀ v H', Q v H' → Q' v H') (hE : ∀ c o H', E c o H' → E' c o H') : PostL K mg r H ρ μ Q' E' := by
  cases r with
  | ok d μ' => exact fun v H' ρ' e w r => h _ _ (p v H' ρ' e w r)
  | ex c x μ' => exact fun cls od H' ρ' e w r => hE _ _ _ (p cls od H' ρ' e w r)
  | no => exact p
/-- a built-in function, a built-in type, called -/
theorem se_callB {x : Str} {p : Pos} {id : String} {r : List V → Hp → VK → Prop} {g : List D → M D} (hc : CallR X (.builtin id) r) (hg : CallM X.K X.mg r g) (hx : Gl X x) (hm : X.mg x = none) (hv : bootBuiltins x = some (.builtin id)) (ha : SA X W (e :: es) ml)
    (hn : x ≠ "__name__" := by decide) (hdb : (x == ("__debug__" : Str)) = false := by decide) (he : starEach (e :: es) X.env = (false, eval e X.env) :: starEach es X.env := by rfl) (hpl : (backTo pos (starEach es X.env)).any (·.1) = false := by rfl) :
    SE X W (.Call (.Name x p) (e :: es) [] pos) (mCall g ml) := by
  refine PE.imp (pe_callB hc hx hm hv ha hn hdb he hpl) fun σ H Q ⟨ρ, μ, env, w, re, p⟩ => ?_
  refine ⟨ρ, μ, env, w, re, PostL.imp (postL_bind p) (fun v H1 ⟨d, ρ1, μ1, e1, w1, r1, p1⟩ => ?_) fun _ _ _ z => z⟩
  exact hg H1 ρ1 μ1 v d Q _ w1 r1 p1
theorem se_callTy {x : Str} {p : Pos} {T : String} {r : List V → Hp → VK → Prop} {g : List D → M D} (hc : CallR X (.type T) r) (hg : CallM X.K X.mg r g) (hx : Gl X x) (hm : X.mg x = none) (hv : bootBuiltins x = some (.type T)) (ha : SA X W (e :: es) ml)
    (hn : x ≠ "__name__" := by decide) (hdb : (x == ("__debug__" : Str)) = false := by decide) (he : starEach (e :: es) X.env = (false, eval e X.env) :: starEach es X.env := by rfl) (hpl : (backTo pos (starEach es X.env)).any (·.1) = false := by rfl) :
    SE X W (.Call (.Name x p) (e :: es) [] pos) (mCall g ml) := by
  refine PE.imp (pe_callTy hc hx hm hv ha hn hdb he hpl) fun σ H Q ⟨ρ, μ, env, w, re, p⟩ => ?_
  refine ⟨ρ, μ, env, w, re, PostL.imp (postL_bind p) (fun v H1 ⟨d, ρ1, μ1, e1, w1, r1, p1⟩ => ?_) fun _ _ _ z => z⟩
  exact hg H1 ρ1 μ1 v d Q _ w1 r1 p1
end
end CL

namespace CL
open PySem L2 PySem.Spec PyProof.Rows

inductive Sr where
  | nx (env : Env) (μ : Mem) | rt (d : D) (μ : Mem) | bk (env : Env) (μ : Mem) | ct (env : Env) (μ : Mem) | ex (c : Str) (x : D) (env : Env) (μ : Mem) | no
abbrev MS := Env → Mem → Sr
/-- from an expression's result to a statement's -/
def Rs.st {α : Type} (r : Rs α) (env : Env) (k : α → Mem → Sr) : Sr := match r with
  | .ok a μ => k a μ
  | .ex c x μ => .ex c x env μ
  | .no => .no
/-- an exception lies as told -/
def ExAt (K : PySem.W.Frag) (mg : Str → Option Value) (H : Hp) (ρ : Lc) (μ : Mem) (c : Str) (x : D) (cls : Value) (od : Option Addr) : Prop :=
  ∃ C dd f y, mg c = some (.ref C) ∧ cls = .ref C ∧ od = some dd ∧ H dd = some (.xd [(f, y)]) ∧ Rm K mg H ρ μ y x
def PostS (K : PySem.W.Frag) (mg : Str → Option Value) (W : WX) (r : Sr) (H : Hp) (ρ : Lc) (μ : Mem) (Dn : Ends) : Prop :=
  match r with
  | .nx env' μ' => ∀ σ' H' ρ', Exm H ρ μ H' ρ' μ' → Wd K mg H' ρ' μ' → REnv K mg H' ρ' μ' σ' env' → Dn.nx σ' H'
  | .rt d μ' => ∀ v H' ρ', Exm H ρ μ H' ρ' μ' → Wd K mg H' ρ' μ' → Rm K mg H' ρ' μ' v d → Dn.rt v H'
  | .bk env' μ' => ∀ σ' H' ρ', Exm H ρ μ H' ρ' μ' → Wd K mg H' ρ' μ' → REnv K mg H' ρ' μ' σ' env' → Dn.bk σ' H'
  | .ct env' μ' => ∀ σ' H' ρ', Exm H ρ μ H' ρ' μ' → Wd K mg H' ρ' μ' → REnv K mg H' ρ' μ' σ' env' → Dn.ct σ' H'
  | .ex c x env' μ' => ∀ cls od σ' H' ρ', Exm H ρ μ H' ρ' μ' → Wd K mg H' ρ' μ' → REnv K mg H' ρ' μ' σ' env' → ExAt K mg H' ρ' μ' c x cls od → W cls od σ' H'
  | .no => False
def tMS (K : PySem.W.Frag) (mg : Str → Option Value) (W : WX) (m : MS) : TS := fun Dn σ H => ∃ ρ μ env, Wd K mg H ρ μ ∧ REnv K mg H ρ μ σ env ∧ PostS K mg W (m env μ) H ρ μ Dn
abbrev SS (X : Cx) (W : WX) (st : Stmt) (m : MS) : Prop := PS X st (tMS X.K X.mg W m)
abbrev SSs (X : Cx) (W : WX) (st : List Stmt) (m : MS) : Prop := PSs X st (tMS X.K X.mg W m)

section
variable {K : PySem.W.Frag} {mg : Str → Option Value} {W : WX} {H H1 : Hp} {ρ ρ1 : Lc} {μ μ1 : Mem} {σ : L2.St} {env : Env} {Dn Dn' : Ends}
theorem PostS.base {r : Sr} (e : Exm H ρ μ H1 ρ1 μ1) (p : PostS K mg W r H ρ μ Dn) : PostS K mg W r H1 ρ1 μ1 Dn := by
  cases r with
  | nx env' μ' => exact fun σ' H' ρ' e' => p σ' H' ρ' (e.trans e')
  | rt d μ' => exact fun v H' ρ' e' => p v H' ρ' (e.trans e')
  | bk env' μ' => exact fun σ' H' ρ' e' => p σ' H' ρ' (e.trans e')
  | ct env' μ' => exact fun σ' H' ρ' e' => p σ' H' ρ' (e.trans e')
  | ex c x env' μ' => exact fun cls od σ' H' ρ' e' => p cls od σ' H' ρ' (e.trans e')
  | no => exact p
/-- an expression ahead of a statement's end -/
theorem post_st {r : Rs D} {k : D → Mem → Sr} (re : REnv K mg H ρ μ σ env) (p : PostS K mg W (r.st env k) H ρ μ Dn) :
    Post K mg r H ρ μ (fun v H1 => ∃ d ρ1 μ1, Exm H ρ μ H1 ρ1 μ1 ∧ Wd K mg H1 ρ1 μ1 ∧ REnv K mg H1 ρ1 μ1 σ env ∧ Rm K mg H1 ρ1 μ1 v d ∧ PostS K mg W (k d μ1) H1 ρ1 μ1 Dn) (fun c od H' => W c od σ H') := by
  cases r with
  | ok d μ' => exact fun v H' ρ' e w r => ⟨d, ρ', μ', e, w, re.mono e, r, PostS.base e p⟩
  | ex c x μ' => exact fun cls od H' ρ' e w r => p cls od σ H' ρ' e w (re.mono e) r
  | no => exact p
theorem postB_st {r : Rs Bool} {k : Bool → Mem → Sr} (re : REnv K mg H ρ μ σ env) (p : PostS K mg W (r.st env k) H ρ μ Dn) :
    PostB K mg r H ρ μ (fun b H1 => ∃ ρ1 μ1, Exm H ρ μ H1 ρ1 μ1 ∧ Wd K mg H1 ρ1 μ1 ∧ REnv K mg H1 ρ1 μ1 σ env ∧ PostS K mg W (k b μ1) H1 ρ1 μ1 Dn) (fun c od H' => W c od σ H') := by
  cases r with
  | ok d μ' => exact fun H' ρ' e w => ⟨ρ', μ', e, w, re.mono e, PostS.base e p⟩
  | ex c x μ' => exact fun cls od H' ρ' e w r => p cls od σ H' ρ' e w (re.mono e) r
  | no => exact p
theorem postL_st {r : Rs (List D)} {k : List D → Mem → Sr} (re : REnv K mg H ρ μ σ env) (p : PostS K mg W (r.st env k) H ρ μ Dn) :
    PostL K mg r H ρ μ (fun v H1 => ∃ d ρ1 μ1, Exm H ρ μ H1 ρ1 μ1 ∧ Wd K mg H1 ρ1 μ1 ∧ REnv K mg H1 ρ1 μ1 σ env ∧ RLm K mg H1 ρ1 μ1 v d ∧ PostS K mg W (k d μ1) H1 ρ1 μ1 Dn) (fun c od H' => W c od σ H') := by
  cases r with
  | ok d μ' => exact fun v H' ρ' e w r => ⟨d, ρ', μ', e, w, re.mono e, r, PostS.base e p⟩
  | ex c x μ' => exact fun cls od H' ρ' e w r => p cls od σ H' ρ' e w (re.mono e) r
  | no => exact p
theorem PostS.imp {r : Sr} (p : PostS K mg W r H ρ μ Dn) (h1 : ∀ s h, Dn.nx s h → Dn'.nx s h) (h2 : ∀ v h, Dn.rt v h → Dn'.rt v h) (h3 : ∀ s h, Dn.bk s h → Dn'.bk s h) (h4 : ∀ s h, Dn.ct s h → Dn'.ct s h) : PostS K mg W r H ρ μ Dn' := by
  cases r with
  | nx env' μ' => exact fun σ' H' ρ' e w r => h1 _ _ (p σ' H' ρ' e w r)
  | rt d μ' => exact fun v H' ρ' e w r => h2 _ _ (p v H' ρ' e w r)
  | bk env' μ' => exact fun σ' H' ρ' e w r => h3 _ _ (p σ' H' ρ' e w r)
  | ct env' μ' => exact fun σ' H' ρ' e w r => h4 _ _ (p σ' H' ρ' e w r)
  | ex c x env' μ' => exact p
  | no => exact p
end

/-- a target, by its slots and what it does to them -/
structure Tgt where
  slots : List Nat
  put : D → Env → Option Env
def tgName (i : Nat) : Tgt := ⟨[i], fun d env => some (env.set i (some d))⟩
def putAll : List Nat → List D → Env → Option Env
  | [], [], env => some env
  | i :: is, d :: ds, env => putAll is ds (env.set i (some d))
  | _, _, _ => none
def tgTup (is : List Nat) : Tgt := ⟨is, fun d env => match d with
  | .tup ds => putAll is ds env
  | _ => none⟩
/-- what a target's reading asks -/
def gM (K : PySem.W.Frag) (mg : Str → Option Value) (t : Tgt) : TG := fun v σ H Q => ∃ ρ μ env env' d, Wd K mg H ρ μ ∧ REnv K mg H ρ μ σ env ∧ Rm K mg H ρ μ v d ∧ t.put d env = some env' ∧
  ∀ σ', REnv K mg H ρ μ σ' env' → (∀ vs, (∀ i ∈ t.slots, i ∈ vs) → wipe σ' vs = wipe σ vs) → Q σ' H
abbrev SG (X : Cx) (tg : Expr) (t : Tgt) : Prop := PG X tg (gM X.K X.mg t)
theorem PG.imp {X : Cx} {e : Expr} {t t' : TG} (h : PG X e t) (i : ∀ v σ H Q, t' v σ H Q → t v σ H Q) : PG X e t' := ⟨fun pins s σ H v u Q I r q => h.run pins s σ H v u Q I r (i v σ H Q q)⟩
theorem wipe_get {σ : L2.St} {i : Nat} : ∀ {vs : List Nat}, (wipe σ vs)[i]? = if i ∈ vs then σ[i]?.map (fun _ => none) else σ[i]?
  | [] => by simp [wipe]
  | v :: vs => by
    unfold wipe
    by_cases h : v = i
    · subst h
      rw [List.getElem?_set]
      have e := wipe_length σ vs
      by_cases hl : v < σ.length
      · simp [e, hl]
      · simp [e, hl]
    · rw [List.getElem?_set_ne h, wipe_get (vs := vs)]
      have h' : ¬ i = v := fun z => h z.symm
      simp [h']
theorem wipe_set {σ : L2.St} {i : Nat} {x : Option V} {vs : List Nat} (hi : i ∈ vs) : wipe (σ.set i x) vs = wipe σ vs := by
  apply List.ext_getElem?
  intro j
  rw [wipe_get, wipe_get]
  by_cases hj : j ∈ vs
  · simp only [hj, if_true]
    by_cases e : i = j
    · subst e
      by_cases hl : i < σ.length
      · simp [hl]
      · simp [hl]
    · rw [List.getElem?_set_ne e]
  · have e : i ≠ j := fun z => hj (z ▸ hi)
    simp only [hj, if_false, List.getElem?_set_ne e]
section
variable {X : Cx} {pos : Pos}
theorem sg_name {i : Nat} {x : Str} (hN : X.N.Nodup) (hi : X.N[i]? = some x := by rfl) (hx : L2.Loc X.env.scope x := by first | exact Or.inl rfl | exact Or.inr rfl) (hf : X.fn x = true ∨ X.env.scope.names.lookup x = some .local := by first | exact .inl rfl | exact .inr rfl | assumption) : SG X (.Name x pos) (tgName i) := by
  refine PG.imp (pg_name hN hi hx hf) fun v σ H Q ⟨ρ, μ, env, env', d, w, re, r, h, q⟩ => ?_
  have e : env.set i (some d) = env' := Option.some.inj h
  subst e
  exact q _ (re.set i r) fun vs hv => wipe_set (hv i (by simp [tgName]))
/-- several names -/
def gNames : List Nat → TGs
  | [] => gNil
  | i :: is => gCons (gName i) (gNames is)
theorem gNames_run {K : PySem.W.Frag} {mg : Str → Option Value} {H : Hp} {ρ : Lc} {μ : Mem} {Q : L2.St → Hp → Prop} : ∀ {is : List Nat} {vs : List V} {ds : List D} {σ : L2.St} {env env' : Env}, RLm K mg H ρ μ vs ds → REnv K mg H ρ μ σ env → putAll is ds env = some env' →
    (∀ σ', REnv K mg H ρ μ σ' env' → (∀ ws, (∀ i ∈ is, i ∈ ws) → wipe σ' ws = wipe σ ws) → Q σ' H) → gNames is vs σ H Q
  | [], _, _, σ, env, env', .nil, re, h, q => ⟨rfl, q σ (by have e : env = env' := Option.some.inj h; subst e; exact re) fun _ _ => rfl⟩
  | [], _, _, _, _, _, .cons _ _, _, h, _ => nomatch (show (none : Option Env) = some _ from h)
  | i :: is, _, _, _, _, _, .nil, _, h, _ => nomatch (show (none : Option Env) = some _ from h)
  | i :: is, _, _, σ, env, env', .cons (v := v) (d := d) (vs := vs) (ds := ds) r t, re, h, q => by
    refine ⟨v, vs, rfl, ?_⟩
    refine gNames_run (is := is) t (re.set i r) h fun σ' re' hw => q σ' re' fun ws hs => ?_
    rw [hw ws fun j hj => hs j (List.mem_cons_of_mem _ hj)]
    exact wipe_set (hs i List.mem_cons_self)
theorem putAll_len : ∀ {is : List Nat} {ds : List D} {env env' : Env}, putAll is ds env = some env' → ds.length = is.length
  | [], [], _, _, _ => rfl
  | [], _ :: _, _, _, h => nomatch (show (none : Option Env) = some _ from h)
  | _ :: _, [], _, _, h => nomatch (show (none : Option Env) = some _ from h)
  | i :: is, d :: ds, env, env', h => congrArg (· + 1) (putAll_len (is := is) (ds := ds) h)
theorem FzT.sq {K : PySem.W.Frag} {H : Hp} {Lv : Addr → Prop} {a : Addr} {vs : List V} (h : FzT K H Lv a vs) : SqT K H a vs := by
  rcases h with ⟨h, _⟩ | h
  · exact .inl (.inl h)
  · exact .inr h.2
theorem FzL.sq {K : PySem.W.Frag} {H : Hp} {Lv : Addr → Prop} {a : Addr} {vs : List V} (h : FzL H Lv a vs) : SqL K H a vs := .inl h.1
theorem sg_tup {es : List Expr} {k : Nat} {is : List Nat} (hc : X.calm = true) (h : PGs X es (gNames is))
    (hn : (assignEach es X.env).length = is.length := by rfl) (hst : (assignEach es X.env).findIdx? (·.1) = none := by rfl) : SG X (.Tuple es k pos) (tgTup is) := by
  refine PG.imp (pg_tup hc h hn hst) fun v σ H Q ⟨ρ, μ, env, env', d, w, re, r, h, q⟩ => ?_
  cases r with
  | tup f rl =>
    have h' : putAll is _ env = some env' := h
    exact ⟨_, _, rfl, f.sq, by rw [rl.length]; exact putAll_len h', gNames_run rl re h' fun σ' r' hw => q σ' r' hw⟩
  | _ => exact nomatch (show (none : Option Env) = some _ from h)
theorem sgs_nil : PGs X [] (gNames []) := pgs_nil
theorem sgs_cons {x : Str} {p : Pos} {i : Nat} {es : List Expr} {is : List Nat} (hN : X.N.Nodup) (h2 : PGs X es (gNames is)) (hi : X.N[i]? = some x := by rfl) (hx : L2.Loc X.env.scope x := by first | exact Or.inl rfl | exact Or.inr rfl) (hf : X.fn x = true ∨ X.env.scope.names.lookup x = some .local := by first | exact .inl rfl | exact .inr rfl | assumption)
    (hs : (assignEach (.Name x p :: es) X.env).map (·.2) = assign (.Name x p) X.env :: (assignEach es X.env).map (·.2) := by rfl) : PGs X (.Name x p :: es) (gNames (i :: is)) := pgs_cons (pg_name hN hi hx hf) h2 hs
end

def sNx : MS := fun env μ => .nx env μ
def sSeq (a b : MS) : MS := fun env μ => match a env μ with
  | .nx e m => b e m
  | r => r
def sRet (a : ME) : MS := fun env μ => (a env μ).st env fun d m => .rt d m
def sExpr (a : ME) : MS := fun env μ => (a env μ).st env fun _ m => .nx env m
def sIf (c : MB) (a b : MS) : MS := fun env μ => (c env μ).st env fun t m => if t = true then a env m else b env m
def sAsg (a : ME) (t : Tgt) : MS := fun env μ => (a env μ).st env fun d m => match t.put d env with
  | some env' => .nx env' m
  | none => .no
def sPar (i j : Nat) (ml : ML) : MS := fun env μ => (ml env μ).st env fun ds m => match ds with
  | [a, b] => .nx ((env.set i (some a)).set j (some b)) m
  | _ => .no
section
variable {X : Cx} {W : WX} {st : Stmt} {rest : List Stmt} {pos : Pos} {e : Expr} {me : ME} {ms mt : MS}
theorem ss_nil : SSs X W [] sNx := PSs.imp pss_nil fun Dn σ H ⟨ρ, μ, env, w, re, p⟩ => p σ H ρ Exm.refl w re
theorem ss_cons (h1 : SS X W st ms) (h2 : SSs X W rest mt) : SSs X W (st :: rest) (sSeq ms mt) := by
  refine PSs.imp (pss_cons h1 h2) fun Dn σ H ⟨ρ, μ, env, w, re, p⟩ => ?_
  refine ⟨ρ, μ, env, w, re, ?_⟩
  unfold sSeq at p
  cases h : ms env μ with
  | nx e m => rw [h] at p; exact fun σ' H' ρ' e' w' r' => ⟨ρ', m, e, w', r', PostS.base e' p⟩
  | rt d m => rw [h] at p; exact p
  | bk e m => rw [h] at p; exact p
  | ct e m => rw [h] at p; exact p
  | ex c x e m => rw [h] at p; exact p
  | no => rw [h] at p; exact p
theorem ss_one (h1 : SS X W st ms) : SSs X W [st] ms := pss_one h1
theorem s_ret (he : SE X W e me) : SS X W (.Return (some e) pos) (sRet me) := by
  refine PS.imp (ps_ret he) fun Dn σ H ⟨ρ, μ, env, w, re, p⟩ => ?_
  exact ⟨ρ, μ, env, w, re, Post.imp (post_st re p) (fun v H1 ⟨d, ρ1, μ1, e1, w1, _, r1, p1⟩ => p1 v H1 ρ1 Exm.refl w1 r1) fun _ _ _ z => z⟩
theorem s_retN : SS X W (.Return none pos) (sRet (mC .non)) := PS.imp ps_retN fun Dn σ H ⟨ρ, μ, env, w, re, p⟩ => p .non H ρ Exm.refl w .non
theorem s_expr (he : SE X W e me) (hs : swapsWith e none pos.line X.env = pure false := by rfl) : SS X W (.Expr e pos) (sExpr me) := by
  refine PS.imp (ps_expr he hs) fun Dn σ H ⟨ρ, μ, env, w, re, p⟩ => ?_
  exact ⟨ρ, μ, env, w, re, Post.imp (post_st re p) (fun v H1 ⟨d, ρ1, μ1, e1, w1, re1, r1, p1⟩ => p1 σ H1 ρ1 Exm.refl w1 re1) fun _ _ _ z => z⟩
theorem s_pass : SS X W (.Pass pos) sNx := PS.imp ps_pass fun Dn σ H ⟨ρ, μ, env, w, re, p⟩ => p σ H ρ Exm.refl w re
theorem s_break : SS X W (.Break pos) (fun env μ => .bk env μ) := PS.imp ps_break fun Dn σ H ⟨ρ, μ, env, w, re, p⟩ => p σ H ρ Exm.refl w re
theorem s_cont : SS X W (.Continue pos) (fun env μ => .ct env μ) := PS.imp ps_continue fun Dn σ H ⟨ρ, μ, env, w, re, p⟩ => p σ H ρ Exm.refl w re
/-- code that is not come to -/
theorem s_never : SS X W st (fun _ _ => .no) := PS.imp ps_never fun Dn σ H ⟨ρ, μ, env, w, re, p⟩ => p
theorem s_if {c : Expr} {a b : List Stmt} {mc : MB} (hc : ST X W c mc) (ha : SSs X W a ms) (hb : SSs X W b mt) : SS X W (.If c a b pos) (sIf mc ms mt) := by
  refine PS.imp (ps_if hc ha hb) fun Dn σ H ⟨ρ, μ, env, w, re, p⟩ => ?_
  refine ⟨ρ, μ, env, w, re, PostB.imp (postB_st re p) (fun t H1 ⟨ρ1, μ1, e1, w1, re1, p1⟩ => ?_) fun _ _ _ z => z⟩
  cases t with
  | true => exact ⟨ρ1, μ1, env, w1, re1, p1⟩
  | false => exact ⟨ρ1, μ1, env, w1, re1, p1⟩
theorem asg_in {K : PySem.W.Frag} {mg : Str → Option Value} {W : WX} {t : Tgt} {me : ME} {Dn : Ends} {σ : L2.St} {H : Hp} (h : tMS K mg W (sAsg me t) Dn σ H) : tM K mg W me σ H (fun v H1 => gM K mg t v σ H1 Dn.nx) := by
  obtain ⟨ρ, μ, env, w, re, p⟩ := h
  refine ⟨ρ, μ, env, w, re, Post.imp (post_st re p) (fun v H1 ⟨d, ρ1, μ1, e1, w1, re1, r1, p1⟩ => ?_) fun _ _ _ z => z⟩
  cases h : t.put d env with
  | none => rw [h] at p1; exact False.elim p1
  | some env' => rw [h] at p1; exact ⟨ρ1, μ1, env, env', d, w1, re1, r1, h, fun σ' r' _ => p1 σ' H1 ρ1 Exm.refl w1 r'⟩
/-- target = e -/
theorem s_asg {tg : Expr} {t : Tgt} (he : SE X W e me) (hg : SG X tg t) (hs : swapsWithSole [tg] e pos.line X.env = pure false := by rfl) (hw : swappedStores [tg] e X.env = pure none := by rfl)
    (h1 : (assignEach [tg] X.env).map (·.2) = [assign tg X.env] := by rfl) : SS X W (.Assign [tg] e pos) (sAsg me t) := PS.imp (ps_asg he hg hs hw h1) fun Dn σ H h => asg_in h
/-- name = e -/
theorem s_set {i : Nat} {x : Str} {pos' : Pos} (hN : X.N.Nodup) (he : SE X W e me) (hi : X.N[i]? = some x := by rfl) (hx : L2.Loc X.env.scope x := by first | exact Or.inl rfl | exact Or.inr rfl) (hs : swapsWith e (some (.Name x pos')) pos.line X.env = pure false := by rfl) (hf : X.fn x = true ∨ X.env.scope.names.lookup x = some .local := by first | exact .inl rfl | exact .inr rfl | assumption) :
    SS X W (.Assign [.Name x pos'] e pos) (sAsg me (tgName i)) := by
  refine PS.imp (ps_set hN hi hx he hs hf) fun Dn σ H ⟨ρ, μ, env, w, re, p⟩ => ?_
  exact ⟨ρ, μ, env, w, re, Post.imp (post_st re p) (fun v H1 ⟨d, ρ1, μ1, e1, w1, re1, r1, p1⟩ => p1 _ H1 ρ1 Exm.refl w1 (re1.set i r1)) fun _ _ _ z => z⟩
/-- a, b = x, y -/
theorem s_par {i j : Nat} {x y : Str} {a b : Expr} {ml : ML} {px py pt pt2 : Pos} {kt k2 : Nat} (hc : X.calm = true) (hN : X.N.Nodup) (ha : SA X W [a, b] ml)
    (h : ∀ ta, PA X [a, b] ta → PS X (.Assign [.Tuple [.Name x px, .Name y py] kt pt] (.Tuple [a, b] k2 pt2) pos) (tPar i j ta)) :
    SS X W (.Assign [.Tuple [.Name x px, .Name y py] kt pt] (.Tuple [a, b] k2 pt2) pos) (sPar i j ml) := by
  refine PS.imp (h _ ha) fun Dn σ H ⟨ρ, μ, env, w, re, p⟩ => ?_
  refine ⟨ρ, μ, env, w, re, PostL.imp (postL_st re p) (fun v H1 ⟨ds, ρ1, μ1, e1, w1, re1, r1, p1⟩ => ?_) fun _ _ _ z => z⟩
  cases r1 with
  | nil => exact False.elim p1
  | cons ra t =>
    cases t with
    | nil => exact False.elim p1
    | cons rb t =>
      cases t with
      | nil => exact ⟨_, _, rfl, p1 _ H1 ρ1 Exm.refl w1 ((re1.set i ra).set j rb)⟩
      | cons _ _ => exact False.elim p1
end

/-- a def's promise by its mirror -/
def spM (K : PySem.W.Frag) (mg : Str → Option Value) (n : Nat) (f : List D → M D) : Sp := fun vs H Q E => vs.length = n ∧ ∃ ρ μ ds, Wd K mg H ρ μ ∧ RLm K mg H ρ μ vs ds ∧ Post K mg (f ds μ) H ρ μ Q E
/-- a def by its body: n parameters, N slots -/
def fnM (n N : Nat) (b : MS) : List D → M D := fun ds μ => if ds.length = n then (match b (ds.map some ++ List.replicate (N - n) none) μ with
    | .nx _ m => .ok .non m
    | .rt d m => .ok d m
    | .ex c x _ m => .ex c x m
    | _ => .no) else .no
abbrev CXn (P : Program) (w : World) : CXT := L2.CX P w
abbrev WxE (E : XK) : WX := fun cls d _ H => E cls d H
theorem RL.map_env {K : PySem.W.Frag} {mg : Str → Option Value} {H : Hp} {ρ : Lc} {μ : Mem} {vs : List V} {ds : List D} (r : RLm K mg H ρ μ vs ds) (N : List Str) (n : Nat) (h : n = vs.length) :
    REnv K mg H ρ μ (L2.start N vs) (ds.map some ++ List.replicate (N.length - n) none) := by
  refine ⟨by simp [L2.start, r.length, h], fun i d hd => ?_⟩
  by_cases hi : i < ds.length
  · rw [List.getElem?_append_left (by simpa using hi), List.getElem?_map] at hd
    cases hx : ds[i]? with
    | none => rw [hx] at hd; exact nomatch hd
    | some e =>
      rw [hx] at hd
      have e1 := Option.some.inj (Option.some.inj hd)
      subst e1
      obtain ⟨v, h1, h2⟩ := r.get hx
      refine ⟨v, ?_, h2⟩
      unfold L2.start
      rw [List.getElem?_append_left (by rw [List.length_map, r.length]; exact hi), List.getElem?_map, h1]
      rfl
  · rw [List.getElem?_append_right (by simpa using hi), List.getElem?_replicate] at hd
    split at hd <;> exact nomatch hd
structure RmG (k : Nat) (A : Around) : Prop extends Room k A where
  gd : A.guards = some []
theorem RmG.mono {j k : Nat} {A : Around} (r : RmG k A) (h : j ≤ k) : RmG j A := ⟨r.toRoom.mono h, r.gd⟩
theorem RmG.deep {k : Nat} {A : Around} (r : RmG (k + 1) A) (env : PySem.Env) : RmG k (A.deeper env) := ⟨r.toRoom.deeper env, r.gd⟩
theorem RmG.mk2 {k : Nat} {A : Around} (r : RmG (k + 1) A) (C : Addr) (us : List Value) (kw : List (Str × Value)) : RmG k (A.under (.builtin "type.__call__" ⟨.ref C :: us, kw⟩)) :=
  ⟨r.toRoom.make C us kw, by
    have e : (Code.builtin "type.__call__" ⟨.ref C :: us, kw⟩).guards = [] := by
      unfold Code.guards Code.isGuard
      simp [guardIds]
    show pushGuards (Code.builtin "type.__call__" ⟨.ref C :: us, kw⟩).guards A.guards = some []
    rw [e]
    exact r.gd⟩
/-- a def's promise in such a room -/
structure FnG (P : Program) (w : World) (K : PySem.W.Frag) (mg : Str → Option Value) (base : Heap) (CX : CXT) (k : Nat) (f : Addr) (fd : FuncData) (ps : List Str) (sp : Sp) : Prop where
  len : ∀ vs H Q E, sp vs H Q E → vs.length = ps.length
  run : ∀ (A : Around) (outer : List PySem.Env) (s : Shared) (H : Hp) (args : Args) (us : List Value) (vs : List V) (Q : VK) (E : XK), RmG k A → Env0 P w K mg base A outer s H → BindsTo s fd args (ps.zip us) → Vals vs us → sp vs H Q E →
    codeAny (model P w) A (.call (.ref f) args) (CR CX outer P w H s Q E) s
theorem fnG_of {CX : CXT} {P : Program} {w : World} {K : PySem.W.Frag} {mg : Str → Option Value} {base : Heap} {x qual : Str} {params : Arguments} {body : List Stmt} {scope : Scope} {dvs : List V} {kws : List (Str × V)} {f : Addr} {fd : FuncData} {N ps : List Str} {k : Nat} {sp : Sp}
    (F : FunD K x qual params body scope dvs kws f fd) (S : FnScope N ps scope) (len : ∀ vs H Q E, sp vs H Q E → vs.length = ps.length)
    (hbody : ∀ (cdv : Value) (A : Around) (outer : List PySem.Env) (s : Shared) (H : Hp) (vs : List V) (Q : VK) (E : XK), RmG k (A.deeper (envOfC qual scope s.heap.objs.size f cdv)) → sp vs H Q E →
      ∃ t, PSs (cxOf CX P w K mg base N qual scope f cdv A outer s H E) body t ∧ t { nx := fun _ H' => Q .non H', rt := Q } (L2.start N vs) H) : FnG P w K mg base CX (k + 1) f fd ps sp := by
  obtain ⟨oc, od, dV, kV, doc, pm, an, cdv, ct, osl, rfl, lk, hcd, _, _⟩ := F.ex
  refine ⟨len, fun A outer s H args us vs Q E hr e0 hb r hsp => ?_⟩
  have KX : K.In s.heap := e0.mod.kin.keeps fun b o e => (e0.bs b o e).1
  have nol : s.heap.NoLimit := e0.mod.nolimit.keeps fun b o e => (e0.bs b o e).1
  have kinds : ∀ y ∈ ps.zip us, scope.names.lookup y.1 = some .local ∨ (scope.names.lookup y.1 = some .cell ∧ ((cellsFrom (s.heap.objs.size + 1) scope.names []).lookup y.1).isSome = true) := by
    rintro ⟨n, v⟩ hy
    rcases S.par n (List.of_mem_zip hy).1 with z | z
    · exact .inl z
    · exact .inr ⟨z, PySem.W.cellsFrom_some _ _ _ (.inl z)⟩
  refine codeAny_call_function hr.depth (KX _ _ lk) rfl S.co S.gen rfl (PySem.W.codeRec_of KX hcd) (hb _ _ _ _ ?_)
  refine wpAny_newFunctionEnv_cells S.kind kinds fun env he s1 sx => ?_
  subst he
  refine ⟨nol.keeps sx.toInCall.keep, codeAny_func ?_⟩
  obtain ⟨t, pt, pq⟩ := hbody cdv A outer s H vs Q E (hr.deep _) hsp
  have I : Inv (cxOf CX P w K mg base N qual scope f cdv A outer s H E) [] (L2.start N vs) H s1 :=
    inv_start S hr.hd e0 (len _ _ _ _ hsp) r sx
  refine wpAny_mono (pt.run [] s1 (L2.start N vs) H _ I pq) (fun fl s2 z => ?_) fun _ _ z => z
  cases fl with
  | next =>
    obtain ⟨σ2, H2, J, q⟩ := z
    exact ⟨V.non, H2, J.os, J.bare, J.base, J.hok, rfl, q⟩
  | ret u =>
    obtain ⟨v, σ2, H2, J, rv, q⟩ := z
    exact ⟨v, H2, J.os, J.bare, J.base, J.hok, rv, q⟩
  | brk =>
    obtain ⟨_, _, _, q⟩ := z
    exact False.elim q
  | cont =>
    obtain ⟨_, _, _, q⟩ := z
    exact False.elim q
theorem fn_ok {P : Program} {w : World} {K : PySem.W.Frag} {mg : Str → Option Value} {base : Heap} {x qual : Str} {params : Arguments} {body : List Stmt} {scope : Scope} {dvs : List V} {kws : List (Str × V)} {f : Addr} {fd : FuncData} {N ps : List Str} {k n m : Nat} {b : MS}
    (F : FunD K x qual params body scope dvs kws f fd) (S : FnScope N ps scope) (hn : ps.length = n) (hm : N.length = m)
    (hb : ∀ (cdv : Value) (A : Around) (outer : List PySem.Env) (s : Shared) (H : Hp) (E : XK), RmG k (A.deeper (envOfC qual scope s.heap.objs.size f cdv)) → Takes (cxOf (CXn P w) P w K mg base N qual scope f cdv A outer s H E) (WxE E) →
      PassesOwn (model P w) (A.deeper (envOfC qual scope s.heap.objs.size f cdv)) (envOfC qual scope s.heap.objs.size f cdv) (cxOf (CXn P w) P w K mg base N qual scope f cdv A outer s H E).xe →
      SSs (cxOf (CXn P w) P w K mg base N qual scope f cdv A outer s H E) (WxE E) body b) :
    FnG P w K mg base (CXn P w) (k + 1) f fd ps (spM K mg n (fnM n m b)) := by
  subst hn hm
  refine fnG_of F S (fun vs H Q E h => h.1) (fun cdv A outer s H vs Q E hr h => ?_)
  have X0 : Takes (cxOf (CXn P w) P w K mg base N qual scope f cdv A outer s H E) (WxE E) := takes_of rfl rfl rfl rfl
  have X1 : PassesOwn (model P w) (A.deeper (envOfC qual scope s.heap.objs.size f cdv)) (envOfC qual scope s.heap.objs.size f cdv) (cxOf (CXn P w) P w K mg base N qual scope f cdv A outer s H E).xe := by
    unfold cxOf
    exact PassesOwn.leaving
  refine ⟨_, hb cdv A outer s H E hr X0 X1, ?_⟩
  obtain ⟨hl, ρ, μ, ds, w', r, p⟩ := h
  refine ⟨ρ, μ, _, w', r.map_env N ps.length hl.symm, ?_⟩
  have hd : ds.length = ps.length := by rw [← r.length, hl]
  unfold fnM at p
  rw [if_pos hd] at p
  cases h : b (ds.map some ++ List.replicate (N.length - ps.length) none) μ with
  | nx e m => rw [h] at p; exact fun σ' H' ρ' e w _ => p .non H' ρ' e w .non
  | rt d m => rw [h] at p; exact fun v H' ρ' e w r => p v H' ρ' e w r
  | bk e m => rw [h] at p; exact False.elim p
  | ct e m => rw [h] at p; exact False.elim p
  | ex c x e m => rw [h] at p; exact fun cls od σ' H' ρ' e w _ r => p cls od H' ρ' e w r
  | no => rw [h] at p; exact p
theorem fnM_len {n N : Nat} {b : MS} {ds : List D} {μ : Mem} (h : fnM n N b ds μ ≠ .no) : ds.length = n := by
  apply Classical.byContradiction
  intro z
  unfold fnM at h
  rw [if_neg z] at h
  exact h rfl
/-- which lists of arguments a mirror takes -/
def Ar (n : Nat) (f : List D → M D) : Prop := ∀ ds μ, f ds μ ≠ .no → ds.length = n
theorem ar_fnM {n N : Nat} {b : MS} : Ar n (fnM n N b) := fun _ _ h => fnM_len h
theorem Post.ne {K : PySem.W.Frag} {mg : Str → Option Value} {r : Rs D} {H : Hp} {ρ : Lc} {μ : Mem} {Q : VK} {E : XK} (p : Post K mg r H ρ μ Q E) : r ≠ .no := fun e => by
  rw [e] at p
  exact p
section
variable {X : Cx} {W : WX} {e : Expr} {es : List Expr} {p pos : Pos} {x : Str} {k n : Nat} {f : Addr} {fd : FuncData} {ps : List Str} {g : List D → M D} {ml : ML}
theorem spM_of {K : PySem.W.Frag} {mg : Str → Option Value} {n : Nat} {g : List D → M D} (ar : Ar n g) {H : Hp} {ρ : Lc} {μ : Mem} {vs : List V} {ds : List D} {Q : VK} {E : XK} (w : Wd K mg H ρ μ) (r : RLm K mg H ρ μ vs ds) (p : Post K mg (g ds μ) H ρ μ Q E) : spM K mg n g vs H Q E :=
  ⟨by rw [r.length]; exact ar ds μ p.ne, ρ, μ, ds, w, r, p⟩
theorem takesAt (tk : Takes X W) (σ : L2.St) : PassesAt (CXn X.prog X.w) X σ (WE W σ) := passAt tk σ
end
end CL

namespace CL
open PySem L2 PySem.Spec PyProof.Rows

mutual
def D.dec : (a b : D) → Decidable (a = b)
  | .non, .non => .isTrue rfl
  | .bl a, .bl b => if h : a = b then .isTrue (by rw [h]) else .isFalse fun e => h (D.bl.inj e)
  | .int a, .int b => if h : a = b then .isTrue (by rw [h]) else .isFalse fun e => h (D.int.inj e)
  | .str a, .str b => if h : a = b then .isTrue (by rw [h]) else .isFalse fun e => h (D.str.inj e)
  | .lst a, .lst b => match D.decL a b with
    | .isTrue h => .isTrue (by rw [h])
    | .isFalse h => .isFalse fun e => h (D.lst.inj e)
  | .tup a, .tup b => match D.decL a b with
    | .isTrue h => .isTrue (by rw [h])
    | .isFalse h => .isFalse fun e => h (D.tup.inj e)
  | .dct c a, .dct d b => if h : c = d then (match D.decK a b with
    | .isTrue h2 => .isTrue (by rw [h, h2])
    | .isFalse h2 => .isFalse fun e => h2 (D.dct.inj e).2) else .isFalse fun e => h (D.dct.inj e).1
  | .ins c a, .ins d b => if h : c = d then (match D.decF a b with
    | .isTrue h2 => .isTrue (by rw [h, h2])
    | .isFalse h2 => .isFalse fun e => h2 (D.ins.inj e).2) else .isFalse fun e => h (D.ins.inj e).1
  | .cel a, .cel b => if h : a = b then .isTrue (by rw [h]) else .isFalse fun e => h (D.cel.inj e)
  | .ty a, .ty b => if h : a = b then .isTrue (by rw [h]) else .isFalse fun e => h (D.ty.inj e)
  | .exc c a, .exc d b => if h : c = d then (match D.decF a b with
    | .isTrue h2 => .isTrue (by rw [h, h2])
    | .isFalse h2 => .isFalse fun e => h2 (D.exc.inj e).2) else .isFalse fun e => h (D.exc.inj e).1
  | .non, .bl _ | .non, .int _ | .non, .str _ | .non, .lst _ | .non, .tup _ | .non, .dct _ _ | .non, .ins _ _ | .non, .cel _ | .non, .ty _ | .non, .exc _ _ => .isFalse fun e => nomatch e
  | .bl _, .non | .bl _, .int _ | .bl _, .str _ | .bl _, .lst _ | .bl _, .tup _ | .bl _, .dct _ _ | .bl _, .ins _ _ | .bl _, .cel _ | .bl _, .ty _ | .bl _, .exc _ _ => .isFalse fun e => nomatch e
  | .int _, .non | .int _, .bl _ | .int _, .str _ | .int _, .lst _ | .int _, .tup _ | .int _, .dct _ _ | .int _, .ins _ _ | .int _, .cel _ | .int _, .ty _ | .int _, .exc _ _ => .isFalse fun e => nomatch e
  | .str _, .non | .str _, .bl _ | .str _, .int _ | .str _, .lst _ | .str _, .tup _ | .str _, .dct _ _ | .str _, .ins _ _ | .str _, .cel _ | .str _, .ty _ | .str _, .exc _ _ => .isFalse fun e => nomatch e
  | .lst _, .non | .lst _, .bl _ | .lst _, .int _ | .lst _, .str _ | .lst _, .tup _ | .lst _, .dct _ _ | .lst _, .ins _ _ | .lst _, .cel _ | .lst _, .ty _ | .lst _, .exc _ _ => .isFalse fun e => nomatch e
  | .tup _, .non | .tup _, .bl _ | .tup _, .int _ | .tup _, .str _ | .tup _, .lst _ | .tup _, .dct _ _ | .tup _, .ins _ _ | .tup _, .cel _ | .tup _, .ty _ | .tup _, .exc _ _ => .isFalse fun e => nomatch e
  | .dct _ _, .non | .dct _ _, .bl _ | .dct _ _, .int _ | .dct _ _, .str _ | .dct _ _, .lst _ | .dct _ _, .tup _ | .dct _ _, .ins _ _ | .dct _ _, .cel _ | .dct _ _, .ty _ | .dct _ _, .exc _ _ => .isFalse fun e => nomatch e
  | .ins _ _, .non | .ins _ _, .bl _ | .ins _ _, .int _ | .ins _ _, .str _ | .ins _ _, .lst _ | .ins _ _, .tup _ | .ins _ _, .dct _ _ | .ins _ _, .cel _ | .ins _ _, .ty _ | .ins _ _, .exc _ _ => .isFalse fun e => nomatch e
  | .cel _, .non | .cel _, .bl _ | .cel _, .int _ | .cel _, .str _ | .cel _, .lst _ | .cel _, .tup _ | .cel _, .dct _ _ | .cel _, .ins _ _ | .cel _, .ty _ | .cel _, .exc _ _ => .isFalse fun e => nomatch e
  | .ty _, .non | .ty _, .bl _ | .ty _, .int _ | .ty _, .str _ | .ty _, .lst _ | .ty _, .tup _ | .ty _, .dct _ _ | .ty _, .ins _ _ | .ty _, .cel _ | .ty _, .exc _ _ => .isFalse fun e => nomatch e
  | .exc _ _, .non | .exc _ _, .bl _ | .exc _ _, .int _ | .exc _ _, .str _ | .exc _ _, .lst _ | .exc _ _, .tup _ | .exc _ _, .dct _ _ | .exc _ _, .ins _ _ | .exc _ _, .cel _ | .exc _ _, .ty _ => .isFalse fun e => nomatch e
def D.decL : (a b : List D) → Decidable (a = b)
  | [], [] => .isTrue rfl
  | [], _ :: _ => .isFalse fun e => nomatch e
  | _ :: _, [] => .isFalse fun e => nomatch e
  | x :: a, y :: b => match D.dec x y, D.decL a b with
    | .isTrue h, .isTrue h2 => .isTrue (by rw [h, h2])
    | .isFalse h, _ => .isFalse fun e => h (List.cons.inj e).1
    | _, .isFalse h => .isFalse fun e => h (List.cons.inj e).2
def D.decK : (a b : List (D × D)) → Decidable (a = b)
  | [], [] => .isTrue rfl
  | [], _ :: _ => .isFalse fun e => nomatch e
  | _ :: _, [] => .isFalse fun e => nomatch e
  | (x, u) :: a, (y, v) :: b => match D.dec x y, D.dec u v, D.decK a b with
    | .isTrue h, .isTrue h1, .isTrue h2 => .isTrue (by rw [h, h1, h2])
    | .isFalse h, _, _ => .isFalse fun e => h (Prod.mk.inj (List.cons.inj e).1).1
    | _, .isFalse h, _ => .isFalse fun e => h (Prod.mk.inj (List.cons.inj e).1).2
    | _, _, .isFalse h => .isFalse fun e => h (List.cons.inj e).2
def D.decF : (a b : List (Str × D)) → Decidable (a = b)
  | [], [] => .isTrue rfl
  | [], _ :: _ => .isFalse fun e => nomatch e
  | _ :: _, [] => .isFalse fun e => nomatch e
  | (x, u) :: a, (y, v) :: b => if h : x = y then (match D.dec u v, D.decF a b with
    | .isTrue h1, .isTrue h2 => .isTrue (by rw [h, h1, h2])
    | .isFalse h, _ => .isFalse fun e => h (Prod.mk.inj (List.cons.inj e).1).2
    | _, .isFalse h => .isFalse fun e => h (List.cons.inj e).2) else .isFalse fun e => h (Prod.mk.inj (List.cons.inj e).1).1
end
instance : DecidableEq D := D.dec

/-- the items; the mutable object (by number, with its content) that must not change meanwhile -/
structure Its where
  items : List D
  chk : Option (Nat × D)
def Its.ok (t : Its) (μ : Mem) : Bool := match t.chk with
  | none => true
  | some (i, d) => decide (μ[i]? = some (some d))
abbrev MI := CL.Env → M Its
/-- J walks the items in every later world in which what is walked is unchanged -/
structure WalkM (K : PySem.W.Frag) (mg : Str → Option Value) (J : It) (t : Its) (H : Hp) (ρ : Lc) (μ : Mem) : Prop where
  goes : ∀ (H' : Hp) (ρ' : Lc) (μ' : Mem) (i : Nat), Exx H (Live ρ μ) ρ.cs H' (Live ρ' μ') ρ'.cs → Wd K mg H' ρ' μ' → t.ok μ' = true → i < t.items.length → J.go i H'
  stops : ∀ (H' : Hp) (ρ' : Lc) (μ' : Mem), Exx H (Live ρ μ) ρ.cs H' (Live ρ' μ') ρ'.cs → Wd K mg H' ρ' μ' → t.ok μ' = true → J.stop t.items.length H'
  yields : ∀ (H' : Hp) (ρ' : Lc) (μ' : Mem) (i : Nat) (x : V) (H2 : Hp) (d : D), Exx H (Live ρ μ) ρ.cs H' (Live ρ' μ') ρ'.cs → Wd K mg H' ρ' μ' → t.ok μ' = true → t.items[i]? = some d → J.yld i H' x H2 →
    Exm H' ρ' μ' H2 ρ' μ' ∧ Wd K mg H2 ρ' μ' ∧ Rm K mg H2 ρ' μ' x d
def PostI (K : PySem.W.Frag) (mg : Str → Option Value) (r : Rs Its) (H : Hp) (ρ : Lc) (μ : Mem) (Q : It → Hp → Prop) (E : XK) : Prop :=
  match r with
  | .ok t μ' => ∀ J H' ρ', Exm H ρ μ H' ρ' μ' → Wd K mg H' ρ' μ' → WalkM K mg J t H' ρ' μ' → Q J H'
  | .ex c x μ' => ∀ cls od H' ρ', Exm H ρ μ H' ρ' μ' → Wd K mg H' ρ' μ' → ExAt K mg H' ρ' μ' c x cls od → E cls od H'
  | .no => False
def tMI (K : PySem.W.Frag) (mg : Str → Option Value) (W : WX) (m : MI) : TI := fun σ H R => ∃ ρ μ env, Wd K mg H ρ μ ∧ REnv K mg H ρ μ σ env ∧ PostI K mg (m env μ) H ρ μ R (fun c od H' => W c od σ H')
abbrev SI (X : Cx) (W : WX) (tg iter : Expr) (m : MI) : Prop := PI X tg iter (tMI X.K X.mg W m)
theorem PI.imp {X : Cx} {tg e : Expr} {t t' : TI} (h : PI X tg e t) (i : ∀ σ H R, t' σ H R → t σ H R) : PI X tg e t' := ⟨fun pins s σ H R I q => h.run pins s σ H R I (i σ H R q)⟩

section
variable {K : PySem.W.Frag} {mg : Str → Option Value} {H H1 : Hp} {ρ ρ1 : Lc} {μ μ1 : Mem} {E : XK}
theorem PostI.base {r : Rs Its} {Q : It → Hp → Prop} (e : Exm H ρ μ H1 ρ1 μ1) (p : PostI K mg r H ρ μ Q E) : PostI K mg r H1 ρ1 μ1 Q E := by
  cases r with
  | ok d μ' => exact fun J H' ρ' e' => p J H' ρ' (e.trans e')
  | ex c x μ' => exact fun cls od H' ρ' e' => p cls od H' ρ' (e.trans e')
  | no => exact p
theorem post_bindI {r : Rs D} {k : D → M Its} {Q : It → Hp → Prop} (p : PostI K mg (r.bind k) H ρ μ Q E) :
    Post K mg r H ρ μ (fun v H1 => ∃ d ρ1 μ1, Exm H ρ μ H1 ρ1 μ1 ∧ Wd K mg H1 ρ1 μ1 ∧ Rm K mg H1 ρ1 μ1 v d ∧ PostI K mg (k d μ1) H1 ρ1 μ1 Q E) E := by
  cases r with
  | ok d μ' => exact fun v H' ρ' e w r => ⟨d, ρ', μ', e, w, r, PostI.base e p⟩
  | ex c x μ' => exact p
  | no => exact p
theorem postL_bindI {r : Rs (List D)} {k : List D → M Its} {Q : It → Hp → Prop} (p : PostI K mg (r.bind k) H ρ μ Q E) :
    PostL K mg r H ρ μ (fun v H1 => ∃ d ρ1 μ1, Exm H ρ μ H1 ρ1 μ1 ∧ Wd K mg H1 ρ1 μ1 ∧ RLm K mg H1 ρ1 μ1 v d ∧ PostI K mg (k d μ1) H1 ρ1 μ1 Q E) E := by
  cases r with
  | ok d μ' => exact fun v H' ρ' e w r => ⟨d, ρ', μ', e, w, r, PostI.base e p⟩
  | ex c x μ' => exact p
  | no => exact p
theorem Live.cell (w : Wd K mg H ρ μ) {i : Nat} {a : Addr} {d : D} (h : ρ.cs[i]? = some a) (hm : μ[i]? = some (some d)) (hd : mutD d = true) : Live ρ μ a := .inr ⟨i, d, h, hm, hd⟩
/-- a list as data: frozen, or a cell's -/
def asLst : D → M Its
  | .lst ds, μ => .ok ⟨ds, none⟩ μ
  | .cel i, μ => match μ[i]? with
    | some (some (.lst ds)) => .ok ⟨ds, some (i, .lst ds)⟩ μ
    | _ => .no
  | _, _ => .no
/-- a list stands at a, its items worth ds, while what is told is unchanged -/
theorem asLst_ok {v : V} {d : D} {t : Its} {μ' : Mem} (w : Wd K mg H ρ μ) (r : Rm K mg H ρ μ v d) (h : asLst d μ = .ok t μ') :
    μ' = μ ∧ ∃ a vs, v = .ref a ∧ SqL K H a vs ∧ RLm K mg H ρ μ vs t.items ∧ ∀ (H' : Hp) (ρ' : Lc) (μ2 : Mem), Exx H (Live ρ μ) ρ.cs H' (Live ρ' μ2) ρ'.cs → Wd K mg H' ρ' μ2 → t.ok μ2 = true → ∃ ws, SqL K H' a ws ∧ RLm K mg H' ρ' μ2 ws t.items := by
  cases r with
  | lst f rl =>
    have e : Rs.ok _ μ = Rs.ok t μ' := h
    injection e with e1 e2
    subst e1 e2
    exact ⟨rfl, _, _, rfl, f.sq, rl, fun H' ρ' μ2 e w' _ => ⟨_, (f.mono e).sq, rl.mono e⟩⟩
  | cel hc =>
    rename_i a i
    have h1 : (match μ[i]? with
      | some (some (.lst ds)) => Rs.ok (⟨ds, some (i, .lst ds)⟩ : Its) μ
      | _ => .no) = Rs.ok t μ' := h
    cases hm : μ[i]? with
    | none => rw [hm] at h1; exact nomatch h1
    | some o =>
      rw [hm] at h1
      cases o with
      | none => exact nomatch h1
      | some d =>
        cases d with
        | lst ds =>
          have e : Rs.ok (⟨ds, some (i, .lst ds)⟩ : Its) μ = Rs.ok t μ' := h1
          injection e with e1 e2
          subst e1 e2
          obtain ⟨vs, h2, h3⟩ := w.cell i _ a hm hc
          refine ⟨rfl, a, vs, rfl, .inl (.inl h2), h3, fun H' ρ' μ2 e w' ho => ?_⟩
          have hm2 : μ2[i]? = some (some (.lst ds)) := of_decide_eq_true ho
          obtain ⟨ws, h4, h5⟩ := w'.cell i _ a hm2 (e.pre i a hc)
          exact ⟨ws, .inl (.inl h4), h5⟩
        | _ => exact nomatch h1
  | _ => exact nomatch (show (Rs.no : Rs Its) = _ from h)
theorem asLst_ne {d : D} {μ : Mem} {c : Str} {x : D} {μ' : Mem} : asLst d μ ≠ .ex c x μ' := by
  intro h
  unfold asLst at h
  split at h
  · exact nomatch h
  · split at h <;> exact nomatch h
  · exact nomatch h
theorem PostI.ok {t : Its} {J : It} {Q : It → Hp → Prop} (w : Wd K mg H ρ μ) (p : PostI K mg (.ok t μ) H ρ μ Q E) (r : WalkM K mg J t H ρ μ) : Q J H := p J H ρ Exm.refl w r
theorem walkM_list {a : Addr} {t : Its} (hs : ∀ (H' : Hp) (ρ' : Lc) (μ2 : Mem), Exx H (Live ρ μ) ρ.cs H' (Live ρ' μ2) ρ'.cs → Wd K mg H' ρ' μ2 → t.ok μ2 = true → ∃ ws, SqL K H' a ws ∧ RLm K mg H' ρ' μ2 ws t.items) : WalkM K mg (Itl K a) t H ρ μ where
  goes := fun H' ρ' μ' i e w ho hi => by
    obtain ⟨ws, h1, h2⟩ := hs H' ρ' μ' e w ho
    have hl := h2.length
    exact ⟨ws, ws[i]'(by omega), h1, by simp [show i < ws.length by omega]⟩
  stops := fun H' ρ' μ' e w ho => by
    obtain ⟨ws, h1, h2⟩ := hs H' ρ' μ' e w ho
    exact ⟨ws, h1, by rw [h2.length]; exact Nat.le_refl _⟩
  yields := fun H' ρ' μ' i x H2 d e w ho hi y => by
    obtain ⟨ws, h1, h2⟩ := hs H' ρ' μ' e w ho
    obtain ⟨y1, y2⟩ := y
    obtain ⟨v, h3, h4⟩ := h2.get hi
    have e1 := (y2 ws h1).symm.trans h3
    have e2 := Option.some.inj e1
    subst e2 y1
    exact ⟨Exm.refl, w, h4⟩
/-- for x in a list -/
def iLst (a : ME) : MI := fun env μ => (a env μ).bind asLst
theorem si_list {X : Cx} {W : WX} {tg l : Expr} {ml : ME} (hl : SE X W l ml) : SI X W tg l (iLst ml) := by
  refine PI.imp (pi_list hl) fun σ H R ⟨ρ, μ, env, w, re, p⟩ => ?_
  refine ⟨ρ, μ, env, w, re, Post.imp (post_bindI p) (fun v H1 ⟨d, ρ1, μ1, e1, w1, r1, p1⟩ => ?_) fun _ _ _ z => z⟩
  cases h : asLst d μ1 with
  | no => rw [h] at p1; exact False.elim p1
  | ex c x m => exact absurd h asLst_ne
  | ok t m =>
    obtain ⟨e, a, vs, ev, hs, hr, hw⟩ := asLst_ok w1 r1 h
    subst e ev
    rw [h] at p1
    exact ⟨a, rfl, ⟨vs, hs⟩, PostI.ok w1 p1 (walkM_list hw)⟩
/-- for x in a tuple -/
def asTup : D → M Its
  | .tup ds, μ => .ok ⟨ds, none⟩ μ
  | _, _ => .no
theorem walkM_tup {a : Addr} {t : Its} (hs : ∀ (H' : Hp) (ρ' : Lc) (μ2 : Mem), Exx H (Live ρ μ) ρ.cs H' (Live ρ' μ2) ρ'.cs → ∃ ws, SqT K H' a ws ∧ RLm K mg H' ρ' μ2 ws t.items) : WalkM K mg (Itt K a) t H ρ μ where
  goes := fun H' ρ' μ' i e w ho hi => by
    obtain ⟨ws, h1, h2⟩ := hs H' ρ' μ' e
    have hl := h2.length
    exact ⟨ws, ws[i]'(by omega), h1, by simp [show i < ws.length by omega]⟩
  stops := fun H' ρ' μ' e w ho => by
    obtain ⟨ws, h1, h2⟩ := hs H' ρ' μ' e
    exact ⟨ws, h1, by rw [h2.length]; exact Nat.le_refl _⟩
  yields := fun H' ρ' μ' i x H2 d e w ho hi y => by
    obtain ⟨ws, h1, h2⟩ := hs H' ρ' μ' e
    obtain ⟨y1, y2⟩ := y
    obtain ⟨v, h3, h4⟩ := h2.get hi
    have e1 := (y2 ws h1).symm.trans h3
    have e2 := Option.some.inj e1
    subst e2 y1
    exact ⟨Exm.refl, w, h4⟩
def iTupM (a : ME) : MI := fun env μ => (a env μ).bind asTup
theorem si_tup {X : Cx} {W : WX} {tg l : Expr} {ml : ME} (hl : SE X W l ml) : SI X W tg l (iTupM ml) := by
  refine PI.imp (pi_tup hl) fun σ H R ⟨ρ, μ, env, w, re, p⟩ => ?_
  refine ⟨ρ, μ, env, w, re, Post.imp (post_bindI p) (fun v H1 ⟨d, ρ1, μ1, e1, w1, r1, p1⟩ => ?_) fun _ _ _ z => z⟩
  cases r1 with
  | tup f rl => exact ⟨_, rfl, ⟨_, f.sq⟩, PostI.ok w1 p1 (walkM_tup fun H' ρ' μ2 e => ⟨_, (f.mono e).sq, rl.mono e⟩)⟩
  | _ => exact False.elim p1
/-- for c in a text -/
def signs (x : Str) : List D := x.cps.toList.map fun c => .str ⟨#[c]⟩
def asStr : D → M Its
  | .str x, μ => .ok ⟨signs x, none⟩ μ
  | _, _ => .no
def iStrM (a : ME) : MI := fun env μ => (a env μ).bind asStr
theorem si_str {X : Cx} {W : WX} {tg l : Expr} {ml : ME} (hl : SE X W l ml) : SI X W tg l (iStrM ml) := by
  refine PI.imp (pi_str hl) fun σ H R ⟨ρ, μ, env, w, re, p⟩ => ?_
  refine ⟨ρ, μ, env, w, re, Post.imp (post_bindI p) (fun v H1 ⟨d, ρ1, μ1, e1, w1, r1, p1⟩ => ?_) fun _ _ _ z => z⟩
  cases r1 with
  | str x =>
    refine ⟨x, rfl, PostI.ok w1 p1 ⟨fun H' ρ' μ' i e w ho hi => ?_, fun H' ρ' μ' e w ho => ?_, fun H' ρ' μ' i y H2 d e w ho hi hy => ?_⟩⟩
    · have : i < x.cps.size := by simpa [signs] using hi
      exact this
    · show x.cps.size ≤ _
      simp [signs]
    · obtain ⟨h1, c, h2, h3⟩ := hy
      subst h1 h3
      have e1 : (signs x)[i]? = some (D.str ⟨#[c]⟩) := by
        unfold signs
        rw [List.getElem?_map, Array.getElem?_toList, h2]
        rfl
      have e2 := Option.some.inj (e1.symm.trans hi)
      subst e2
      exact ⟨Exm.refl, w, .str _⟩
  | _ => exact False.elim p1
/-- for i in range(..) -/
def rangeL (lo hi : Int) : List D := (List.range (hi - lo).toNat).map fun i => .int (lo + (i : Nat))
def big62 (i : Int) : Bool := decide (-(2 ^ 62) ≤ i ∧ i < 2 ^ 62)
def asRange1 : List D → M Its
  | [.int n], μ => if big62 n then .ok ⟨rangeL 0 n, none⟩ μ else .no
  | _, _ => .no
def asRange2 : List D → M Its
  | [.int a, .int b], μ => if big62 a && big62 b then .ok ⟨rangeL a b, none⟩ μ else .no
  | _, _ => .no
def iRng1 (a : ML) : MI := fun env μ => (a env μ).bind asRange1
def iRng2 (a : ML) : MI := fun env μ => (a env μ).bind asRange2
theorem walkM_range {lo hi : Int} : WalkM K mg (Itr lo (hi - lo).toNat) ⟨rangeL lo hi, none⟩ H ρ μ where
  goes := fun H' ρ' μ' i e w ho hi' => by
    have h : i < (rangeL lo hi).length := hi'
    unfold rangeL at h
    rw [List.length_map, List.length_range] at h
    exact h
  stops := fun H' ρ' μ' e w ho => by
    show _ ≤ _
    simp [rangeL]
  yields := fun H' ρ' μ' i x H2 d e w ho hi' y => by
    obtain ⟨y1, y2⟩ := y
    subst y1 y2
    have hi2 : (rangeL lo hi)[i]? = some d := hi'
    unfold rangeL at hi2
    rw [List.getElem?_map] at hi2
    cases hr : (List.range (hi - lo).toNat)[i]? with
    | none => rw [hr] at hi2; exact nomatch hi2
    | some j =>
      have ej : i = j := by
        have := List.getElem?_eq_some_iff.mp hr
        obtain ⟨hl, e⟩ := this
        simpa using e
      rw [hr] at hi2
      subst ej
      have e2 := Option.some.inj hi2
      subst e2
      exact ⟨Exm.refl, w, .int _⟩
end
end CL

namespace CL
open PySem L2 PySem.Spec PyProof.Rows
section
variable {K : PySem.W.Frag} {mg : Str → Option Value} {H H1 : Hp} {ρ ρ1 : Lc} {μ μ1 : Mem} {E : XK} {p : Addr} {o : HO}
theorem Wd.fresh (w : Wd K mg H ρ μ) (h : H p = none) : ¬ Live ρ μ p := by
  rintro (z | ⟨i, d, z, _⟩)
  · obtain ⟨⟨o, e, _⟩, _⟩ := w.hid p z
    rw [h] at e
    cases e
  · obtain ⟨o, e⟩ := w.trk p (List.mem_of_getElem? z)
    rw [h] at e
    cases e
theorem Exx.new {Lv : Addr → Prop} {cs : List Addr} (h : H p = none) : Exx H Lv cs (upd H p o) Lv cs :=
  ⟨fun a u e _ => .inl (by rw [upd_ne (ne_of_none e h)]; exact e), fun _ _ _ z => z, fun _ _ z => z⟩
theorem Exm.new (w : Wd K mg H ρ μ) (h : H p = none) : Exm H ρ μ (upd H p o) ρ μ :=
  ⟨Exx.new h, rfl, fun a ha => by
    obtain ⟨⟨u, e, _⟩, _⟩ := w.hid a ha
    exact upd_ne (ne_of_none e h)⟩
/-- the cells are untouched -/
theorem Wd.keep (w : Wd K mg H ρ μ) (e : Exx H (Live ρ μ) ρ.cs H1 (Live ρ μ) ρ.cs) (k : ∀ a, Live ρ μ a → H1 a = H a) : Wd K mg H1 ρ μ where
  len := w.len
  nd := w.nd
  trk := fun a ha => by
    obtain ⟨u, hu⟩ := w.trk a ha
    by_cases l : Live ρ μ a
    · exact ⟨u, (k a l).trans hu⟩
    · rcases e.keep a u hu l with k | ⟨_, od, k⟩
      · exact ⟨_, k⟩
      · exact ⟨_, k⟩
  hid := fun a ha => by
    obtain ⟨⟨u, hu, hu2⟩, h2⟩ := w.hid a ha
    exact ⟨⟨u, (k a (.inl ha)).trans hu, hu2⟩, h2⟩
  cell := fun i d a h1 h2 => (w.cell i d a h1 h2).mono e fun m => k a (.inr ⟨i, d, h2, h1, m⟩)
theorem Wd.new (w : Wd K mg H ρ μ) (h : H p = none) : Wd K mg (upd H p o) ρ μ :=
  w.keep (Exx.new h) fun a l => upd_ne fun z => w.fresh h (z ▸ l)
theorem Rm.newT (w : Wd K mg H ρ μ) (h : H p = none) {vs : List V} {ds : List D} (r : RLm K mg H ρ μ vs ds) : Rm K mg (upd H p (.tup vs)) ρ μ (.ref p) (.tup ds) :=
  .tup (.inl ⟨upd_same, w.fresh h⟩) (r.mono (Exx.new h))
theorem Rm.newL (w : Wd K mg H ρ μ) (h : H p = none) {vs : List V} {ds : List D} (r : RLm K mg H ρ μ vs ds) : Rm K mg (upd H p (.lst vs)) ρ μ (.ref p) (.lst ds) :=
  .lst ⟨.inl upd_same, w.fresh h⟩ (r.mono (Exx.new h))
/-- a new mutable object -/
abbrev Lc.push (ρ : Lc) (p : Addr) : Lc := ⟨ρ.cs ++ [p], ρ.hid⟩
theorem Live.push (w : Wd K mg H ρ μ) {d : D} {a : Addr} (l : Live (ρ.push p) (μ ++ [some d]) a) : a = p ∨ Live ρ μ a := by
  rcases l with l | ⟨i, e, h1, h2, h3⟩
  · exact .inr (.inl l)
  · by_cases hi : i < ρ.cs.length
    · rw [List.getElem?_append_left hi] at h1
      rw [List.getElem?_append_left (by rw [← w.len]; exact hi)] at h2
      exact .inr (.inr ⟨i, e, h1, h2, h3⟩)
    · rw [List.getElem?_append_right (by omega)] at h1
      have : i - ρ.cs.length = 0 := by
        have := (List.getElem?_eq_some_iff.mp h1).1
        simp at this
        omega
      rw [this] at h1
      exact .inl (Option.some.inj h1).symm
theorem Exx.newC (w : Wd K mg H ρ μ) (h : H p = none) {d : D} : Exx H (Live ρ μ) ρ.cs (upd H p o) (Live (ρ.push p) (μ ++ [some d])) (ρ.push p).cs :=
  ⟨fun a u e _ => .inl (by rw [upd_ne (ne_of_none e h)]; exact e), fun a u e l => by
    rcases Live.push w l with z | z
    · exact absurd e (by rw [z, h]; exact fun q => nomatch q)
    · exact z, fun i a e => by
    have hl : i < ρ.cs.length := (List.getElem?_eq_some_iff.mp e).1
    show (ρ.cs ++ [p])[i]? = _
    rw [List.getElem?_append_left hl]
    exact e⟩
theorem Exm.newC (w : Wd K mg H ρ μ) (h : H p = none) {d : D} : Exm H ρ μ (upd H p o) (ρ.push p) (μ ++ [some d]) :=
  ⟨Exx.newC w h, rfl, fun a ha => by
    obtain ⟨⟨u, e, _⟩, _⟩ := w.hid a ha
    exact upd_ne (ne_of_none e h)⟩
theorem Wd.newC (w : Wd K mg H ρ μ) (h : H p = none) {d : D} (c : CellAt K mg (upd H p o) (Live (ρ.push p) (μ ++ [some d])) (ρ.push p).cs p d) : Wd K mg (upd H p o) (ρ.push p) (μ ++ [some d]) := by
  have np : p ∉ ρ.cs := fun z => by
    obtain ⟨u, e⟩ := w.trk p z
    rw [h] at e
    cases e
  refine ⟨by simp [w.len], ?_, fun a ha => ?_, fun a ha => ?_, fun i e a h1 h2 => ?_⟩
  · rw [List.nodup_append]
    exact ⟨w.nd, by simp, fun a ha b hb => by
      have : b = p := by simpa using hb
      rw [this]
      exact fun z => np (z ▸ ha)⟩
  · rcases List.mem_append.mp ha with ha | ha
    · obtain ⟨u, e⟩ := w.trk a ha
      exact ⟨u, by rw [upd_ne (ne_of_none e h)]; exact e⟩
    · have : a = p := by simpa using ha
      rw [this]
      exact ⟨_, upd_same⟩
  · obtain ⟨⟨u, e, eu⟩, h2⟩ := w.hid a ha
    refine ⟨⟨u, by rw [upd_ne (ne_of_none e h)]; exact e, eu⟩, fun z => ?_⟩
    rcases List.mem_append.mp z with z | z
    · exact h2 z
    · have : a = p := by simpa using z
      rw [this, h] at e
      cases e
  · by_cases hi : i < ρ.cs.length
    · have h2' : (ρ.cs ++ [p])[i]? = some a := h2
      rw [List.getElem?_append_left hi] at h2'
      rw [List.getElem?_append_left (by rw [← w.len]; exact hi)] at h1
      obtain ⟨u, eu⟩ := w.trk a (List.mem_of_getElem? h2')
      exact (w.cell i e a h1 h2').mono (Exx.newC w h) fun _ => upd_ne (ne_of_none eu h)
    · have h2' : (ρ.cs ++ [p])[i]? = some a := h2
      rw [List.getElem?_append_right (by omega)] at h2'
      have z : i - ρ.cs.length = 0 := by
        have := (List.getElem?_eq_some_iff.mp h2').1
        simp at this
        omega
      rw [z] at h2'
      rw [List.getElem?_append_right (by rw [← w.len]; omega)] at h1
      have z2 : i - μ.length = 0 := by rw [← w.len]; exact z
      rw [z2] at h1
      have e1 : p = a := Option.some.inj h2'
      have e2 : d = e := Option.some.inj (Option.some.inj h1)
      subst e1 e2
      exact c
theorem Rm.newC (w : Wd K mg H ρ μ) {d : D} {H' : Hp} : Rm K mg H' (ρ.push p) (μ ++ [some d]) (.ref p) (.cel μ.length) :=
  .cel (by rw [← w.len]; show (ρ.cs ++ [p])[ρ.cs.length]? = _; simp)
/-- a new mutable list -/
theorem Wd.newCL (w : Wd K mg H ρ μ) (h : H p = none) {vs : List V} {ds : List D} (r : RLm K mg H ρ μ vs ds) : Wd K mg (upd H p (.lst vs)) (ρ.push p) (μ ++ [some (.lst ds)]) :=
  w.newC h ⟨vs, upd_same, r.mono (Exx.newC w h)⟩

def lim : Nat := 1000000
theorem lim_line {n : Nat} (h : n ≤ lim) : n ≤ sizeLine := Nat.le_trans h (by rw [sizeLine_eq]; decide)
theorem lim_lt {n : Nat} (h : n ≤ lim) : n < sizeLine := Nat.lt_of_le_of_lt h (by rw [sizeLine_eq]; decide)
def mkTup (ds : List D) : M D := fun μ => if ds.length ≤ lim then .ok (.tup ds) μ else .no
def mkLst (ds : List D) : M D := fun μ => if ds.length ≤ lim then .ok (.lst ds) μ else .no
def mkCel (ds : List D) : M D := fun μ => if ds.length ≤ lim then .ok (.cel μ.length) (μ ++ [some (.lst ds)]) else .no
def mTup (a : ML) : ME := fun env μ => (a env μ).bind mkTup
def mLst (a : ML) : ME := fun env μ => (a env μ).bind mkLst
def mCel (a : ML) : ME := fun env μ => (a env μ).bind mkCel
variable {X : Cx} {W : WX} {es : List Expr} {pos : Pos} {ml : ML}
theorem post_newT {vs : List V} {ds : List D} {Q : VK} (w : Wd K mg H ρ μ) (r : RLm K mg H ρ μ vs ds) (pp : Post K mg (mkTup ds μ) H ρ μ Q E) : vs.length ≤ sizeLine ∧ ∀ p, H p = none → Q (.ref p) (upd H p (.tup vs)) := by
  unfold mkTup at pp
  split at pp
  · rename_i hl
    exact ⟨by rw [r.length]; exact lim_line hl, fun p hp => pp (.ref p) _ ρ (Exm.new w hp) (w.new hp) (Rm.newT w hp r)⟩
  · exact False.elim pp
theorem post_newL {vs : List V} {ds : List D} {Q : VK} (w : Wd K mg H ρ μ) (r : RLm K mg H ρ μ vs ds) (pp : Post K mg (mkLst ds μ) H ρ μ Q E) : vs.length ≤ sizeLine ∧ ∀ p, H p = none → Q (.ref p) (upd H p (.lst vs)) := by
  unfold mkLst at pp
  split at pp
  · rename_i hl
    exact ⟨by rw [r.length]; exact lim_line hl, fun p hp => pp (.ref p) _ ρ (Exm.new w hp) (w.new hp) (Rm.newL w hp r)⟩
  · exact False.elim pp
theorem post_newC {vs : List V} {ds : List D} {Q : VK} (w : Wd K mg H ρ μ) (r : RLm K mg H ρ μ vs ds) (pp : Post K mg (mkCel ds μ) H ρ μ Q E) : vs.length ≤ sizeLine ∧ ∀ p, H p = none → Q (.ref p) (upd H p (.lst vs)) := by
  unfold mkCel at pp
  split at pp
  · rename_i hl
    exact ⟨by rw [r.length]; exact lim_line hl, fun p hp => pp (.ref p) _ (ρ.push p) (Exm.newC w hp) (Wd.newCL w hp r) (Rm.newC w)⟩
  · exact False.elim pp
theorem se_tup {x1 : Nat} (h : SA X W es ml) : SE X W (.Tuple es x1 pos) (mTup ml) := by
  refine PE.imp (pe_tup h) fun σ H Q ⟨ρ, μ, env, w, re, p⟩ => ?_
  exact ⟨ρ, μ, env, w, re, PostL.imp (postL_bind p) (fun v H1 ⟨d, ρ1, μ1, e1, w1, r1, p1⟩ => post_newT w1 r1 p1) fun _ _ _ z => z⟩
theorem se_lst (h : SA X W es ml) : SE X W (.List es pos) (mLst ml) := by
  refine PE.imp (pe_lst h) fun σ H Q ⟨ρ, μ, env, w, re, p⟩ => ?_
  exact ⟨ρ, μ, env, w, re, PostL.imp (postL_bind p) (fun v H1 ⟨d, ρ1, μ1, e1, w1, r1, p1⟩ => post_newL w1 r1 p1) fun _ _ _ z => z⟩
theorem se_cel (h : SA X W es ml) : SE X W (.List es pos) (mCel ml) := by
  refine PE.imp (pe_lst h) fun σ H Q ⟨ρ, μ, env, w, re, p⟩ => ?_
  exact ⟨ρ, μ, env, w, re, PostL.imp (postL_bind p) (fun v H1 ⟨d, ρ1, μ1, e1, w1, r1, p1⟩ => post_newC w1 r1 p1) fun _ _ _ z => z⟩

theorem si_range1 {tg a : Expr} {p : Pos} (hm : X.mg "range" = none) (ha : SA X W [a] ml) (hg : Gl X "range" := by rfl) (hs : starEach [a] X.env = [(false, eval a X.env)] := by rfl) : SI X W tg (.Call (.Name "range" p) [a] [] pos) (CL.iRng1 ml) := by
  refine PI.imp (pi_range1 hg hm ha hs) fun σ H R ⟨ρ, μ, env, w, re, p⟩ => ?_
  refine ⟨ρ, μ, env, w, re, PostL.imp (postL_bindI p) (fun v H1 ⟨d, ρ1, μ1, e1, w1, r1, p1⟩ => ?_) fun _ _ _ z => z⟩
  cases r1 with
  | nil => exact False.elim p1
  | cons r t =>
    cases t with
    | nil =>
      cases r with
      | int n =>
        have p2 : PostI _ _ (if big62 n then Rs.ok (⟨rangeL 0 n, none⟩ : Its) μ1 else .no) H1 ρ1 μ1 R _ := p1
        by_cases h : big62 n = true
        · rw [if_pos h] at p2
          have h' := of_decide_eq_true h
          refine ⟨n, rfl, h'.1, h'.2, ?_⟩
          have e : n.toNat = (n - 0).toNat := by simp
          rw [e]
          exact PostI.ok w1 p2 walkM_range
        · rw [if_neg h] at p2; exact False.elim p2
      | _ => exact False.elim p1
    | cons _ _ => exact False.elim (by cases r <;> exact p1)
theorem si_range2 {tg a b : Expr} {p : Pos} (hm : X.mg "range" = none) (ha : SA X W [a, b] ml) (hg : Gl X "range" := by rfl) (hs : starEach [a, b] X.env = [(false, eval a X.env), (false, eval b X.env)] := by rfl) (hs2 : starEach [b] X.env = [(false, eval b X.env)] := by rfl) : SI X W tg (.Call (.Name "range" p) [a, b] [] pos) (CL.iRng2 ml) := by
  refine PI.imp (pi_range2 hg hm ha hs hs2) fun σ H R ⟨ρ, μ, env, w, re, p⟩ => ?_
  refine ⟨ρ, μ, env, w, re, PostL.imp (postL_bindI p) (fun v H1 ⟨d, ρ1, μ1, e1, w1, r1, p1⟩ => ?_) fun _ _ _ z => z⟩
  unfold asRange2 at p1
  split at p1
  · cases r1 with
    | cons r t =>
      cases t with
      | cons r2 t =>
        cases t
        cases r
        cases r2
        rename_i n m _
        split at p1
        · rename_i h
          obtain ⟨h1, h2⟩ := Bool.and_eq_true_iff.mp h
          have h1' := of_decide_eq_true h1
          have h2' := of_decide_eq_true h2
          exact ⟨n, m, rfl, ⟨h1'.1, h1'.2, h2'.1, h2'.2⟩, PostI.ok w1 p1 walkM_range⟩
        · exact False.elim p1
  · exact False.elim p1
end
end CL

namespace CL
open PySem L2 PySem.Spec PyProof.Rows
section
variable {K : PySem.W.Frag} {mg : Str → Option Value} {H H1 : Hp} {ρ ρ1 : Lc} {μ μ1 : Mem} {E : XK} {X : Cx} {W : WX} {es : List Expr} {pos : Pos} {ml : ML}
def enumL : List D → Nat → List D
  | [], _ => []
  | d :: ds, i => .tup [.int (i : Nat), d] :: enumL ds (i + 1)
theorem enumL_get : ∀ {ds : List D} {k i : Nat}, (enumL ds k)[i]? = ds[i]?.map fun d => D.tup [.int ((k + i : Nat) : Int), d]
  | [], k, i => by simp [enumL]
  | d :: ds, k, 0 => by simp [enumL]
  | d :: ds, k, i + 1 => by
    show (enumL ds (k + 1))[i]? = ds[i]?.map _
    rw [enumL_get (ds := ds)]
    have e : k + 1 + i = k + (i + 1) := by omega
    rw [e]
theorem enumL_len : ∀ {ds : List D} {k : Nat}, (enumL ds k).length = ds.length
  | [], _ => rfl
  | _ :: ds, k => congrArg (· + 1) (enumL_len (ds := ds) (k := k + 1))
def asEnum : List D → M Its
  | [d], μ => (asLst d μ).bind fun t m => .ok ⟨enumL t.items 0, t.chk⟩ m
  | _, _ => .no
def iEnumM (a : ML) : MI := fun env μ => (a env μ).bind asEnum
theorem si_enum {e : Expr} {p tpos : Pos} {elts : List Expr} {kk : Nat} (hm : X.mg "enumerate" = none) (ha : SA X W [e] ml) (hg : Gl X "enumerate" := by rfl) (hs : starEach [e] X.env = [(false, eval e X.env)] := by rfl) :
    SI X W (.Tuple elts kk tpos) (.Call (.Name "enumerate" p) [e] [] pos) (iEnumM ml) := by
  refine PI.imp (pi_enum hg hm ha hs) fun σ H R ⟨ρ, μ, env, w, re, p⟩ => ?_
  refine ⟨ρ, μ, env, w, re, PostL.imp (postL_bindI p) (fun v H1 ⟨d, ρ1, μ1, e1, w1, r1, p1⟩ => ?_) fun _ _ _ z => z⟩
  cases r1 with
  | nil => exact False.elim p1
  | @cons v0 d0 vs0 ds0 r t =>
    cases t with
    | cons _ _ => exact False.elim p1
    | nil =>
      have p2 : PostI _ _ ((asLst d0 μ1).bind fun t m => .ok ⟨enumL t.items 0, t.chk⟩ m) H1 ρ1 μ1 R _ := p1
      cases h : asLst d0 μ1 with
      | no => rw [h] at p2; exact False.elim p2
      | ex c x m => exact absurd h asLst_ne
      | ok t m =>
        obtain ⟨em, a, vs, ev, hs', hr, hw⟩ := asLst_ok w1 r h
        subst em ev
        rw [h] at p2
        refine ⟨a, vs, rfl, hs', PostI.ok w1 p2 ⟨fun H' ρ' μ' i e w ho hi => ?_, fun H' ρ' μ' e w ho => ?_, fun H' ρ' μ' i x H2 d e w ho hi y => ?_⟩⟩
        · obtain ⟨ws, h1, h2⟩ := hw H' ρ' μ' e w ho
          have hi' : i < (enumL t.items 0).length := hi
          rw [enumL_len, ← h2.length] at hi'
          exact ⟨ws, ws[i], h1, by simp [hi']⟩
        · obtain ⟨ws, h1, h2⟩ := hw H' ρ' μ' e w ho
          refine ⟨ws, h1, ?_⟩
          show _ ≤ (enumL t.items 0).length
          rw [enumL_len, h2.length]
          exact Nat.le_refl _
        · obtain ⟨ws, h1, h2⟩ := hw H' ρ' μ' e w ho
          obtain ⟨T, z, y1, y2, y3, y4⟩ := y
          have hi' : (enumL t.items 0)[i]? = some d := hi
          rw [enumL_get] at hi'
          cases hd : t.items[i]? with
          | none => rw [hd] at hi'; exact nomatch hi'
          | some d1 =>
            rw [hd] at hi'
            have e2 := Option.some.inj hi'
            subst e2 y1 y3
            obtain ⟨v1, h3, h4⟩ := h2.get hd
            have e3 := Option.some.inj ((y4 ws h1).symm.trans h3)
            subst e3
            refine ⟨Exm.new w y2, w.new y2, Rm.newT w y2 (.cons ?_ (.one h4))⟩
            rw [Nat.zero_add]
            exact .int _
/-- the turns of a for -/
def loopM (t : Its) (put : D → CL.Env → Option CL.Env) (body : MS) : List D → CL.Env → Mem → Sr
  | [], env, μ => if t.ok μ = true then .nx env μ else .no
  | d :: ds, env, μ => if t.ok μ = true then (match put d env with
    | none => .no
    | some env1 => match body env1 μ with
      | .nx e m => loopM t put body ds e m
      | .ct e m => loopM t put body ds e m
      | .bk e m => .nx e m
      | .rt d m => .rt d m
      | .ex c x e m => .ex c x e m
      | .no => .no) else .no
def sFor (mi : MI) (tg : Tgt) (body : MS) : MS := fun env μ => (mi env μ).st env fun t m => loopM t tg.put body t.items env m
theorem postI_st {σ : L2.St} {env : CL.Env} {Dn : Ends} {r : Rs Its} {k : Its → Mem → Sr} (re : REnv K mg H ρ μ σ env) (p : PostS K mg W (r.st env k) H ρ μ Dn) :
    PostI K mg r H ρ μ (fun J H1 => ∃ t ρ1 μ1, Exm H ρ μ H1 ρ1 μ1 ∧ Wd K mg H1 ρ1 μ1 ∧ REnv K mg H1 ρ1 μ1 σ env ∧ WalkM K mg J t H1 ρ1 μ1 ∧ PostS K mg W (k t μ1) H1 ρ1 μ1 Dn) (fun c od H' => W c od σ H') := by
  cases r with
  | ok d μ' => exact fun v H' ρ' e w r => ⟨d, ρ', μ', e, w, re.mono e, r, PostS.base e p⟩
  | ex c x μ' => exact fun cls od H' ρ' e w r => p cls od σ H' ρ' e w (re.mono e) r
  | no => exact p
theorem PostI.imp {r : Rs Its} {Q Q' : It → Hp → Prop} {E' : XK} (p : PostI K mg r H ρ μ Q E) (h : ∀ v H', Q v H' → Q' v H') (hE : ∀ c o H', E c o H' → E' c o H') : PostI K mg r H ρ μ Q' E' := by
  cases r with
  | ok d μ' => exact fun v H' ρ' e w r => h _ _ (p v H' ρ' e w r)
  | ex c x μ' => exact fun cls od H' ρ' e w r => hE _ _ _ (p cls od H' ρ' e w r)
  | no => exact p
theorem s_for {tg iter : Expr} {body : List Stmt} {mi : MI} {t : Tgt} {mb : MS} (hp : PassesOwn (model X.prog X.w) X.A X.env X.xe) (hc : X.calm = true) (hi : SI X W tg iter mi) (hg : SG X tg t) (hb : SSs X W body mb)
    (hs : ∀ x, foldedSetIterable iter X.env x = pure x := by intro _; rfl) : SS X W (.For tg iter body [] pos) (sFor mi t mb) := by
  refine PS.imp (ps_for hp hc hi hg hb hs) fun Dn σ H ⟨ρ, μ, env, w, re, p⟩ => ?_
  refine ⟨ρ, μ, env, w, re, PostI.imp (postI_st re p) (fun J H1 ⟨its, ρ1, μ1, e1, w1, re1, wk, p1⟩ => ?_) fun _ _ _ z => z⟩
  refine ⟨fun i m σ2 H2 => m = its.items.length - i ∧ i ≤ its.items.length ∧ ∃ ρ2 μ2 env2, Exm H1 ρ1 μ1 H2 ρ2 μ2 ∧ Wd X.K X.mg H2 ρ2 μ2 ∧ REnv X.K X.mg H2 ρ2 μ2 σ2 env2 ∧ PostS X.K X.mg W (loopM its t.put mb (its.items.drop i) env2 μ2) H2 ρ2 μ2 Dn,
    ⟨_, rfl, Nat.zero_le _, ρ1, μ1, env, Exm.refl, w1, re1, p1⟩, ?_⟩
  rintro i m σ2 H2 ⟨rfl, hi, ρ2, μ2, env2, e2, w2, re2, p2⟩
  by_cases hlt : i < its.items.length
  · have hd : its.items.drop i = its.items[i] :: its.items.drop (i + 1) := List.drop_eq_getElem_cons hlt
    rw [hd] at p2
    by_cases ho : its.ok μ2 = true
    · refine .inr ⟨wk.goes H2 ρ2 μ2 i e2.x w2 ho hlt, fun σ3 H3 => ∃ ρ3 μ3 env3, Exm H1 ρ1 μ1 H3 ρ3 μ3 ∧ Wd X.K X.mg H3 ρ3 μ3 ∧ REnv X.K X.mg H3 ρ3 μ3 σ3 env3 ∧ PostS X.K X.mg W (loopM its t.put mb (its.items.drop (i + 1)) env3 μ3) H3 ρ3 μ3 Dn, fun σ' H' q => ⟨its.items.length - (i + 1), by omega, rfl, hlt, q⟩, fun x H3 hy => ?_⟩
      obtain ⟨e3, w3, r3⟩ := wk.yields H2 ρ2 μ2 i x H3 its.items[i] e2.x w2 ho (by simp [hlt]) hy
      have p3 : PostS X.K X.mg W (match t.put its.items[i] env2 with
        | none => .no
        | some env1 => match mb env1 μ2 with
          | .nx e m => loopM its t.put mb (its.items.drop (i + 1)) e m
          | .ct e m => loopM its t.put mb (its.items.drop (i + 1)) e m
          | .bk e m => .nx e m
          | .rt d m => .rt d m
          | .ex c x e m => .ex c x e m
          | .no => .no) H2 ρ2 μ2 Dn := by
        have := p2
        unfold loopM at this
        rw [if_pos ho] at this
        exact this
      cases hput : t.put its.items[i] env2 with
      | none => rw [hput] at p3; exact False.elim p3
      | some env1 =>
        rw [hput] at p3
        refine ⟨ρ2, μ2, env2, env1, its.items[i], w3, re2.mono e3, r3, hput, fun σ4 re4 _ => ⟨ρ2, μ2, env1, w3, re4, ?_⟩⟩
        have p4 := PostS.base e3 p3
        dsimp only at p4
        cases hb : mb env1 μ2 with
        | nx e m => rw [hb] at p4; exact fun σ' H' ρ' ee ww rr => ⟨ρ', m, e, e2.trans (e3.trans ee), ww, rr, PostS.base ee p4⟩
        | ct e m => rw [hb] at p4; exact fun σ' H' ρ' ee ww rr => ⟨ρ', m, e, e2.trans (e3.trans ee), ww, rr, PostS.base ee p4⟩
        | bk e m => rw [hb] at p4; exact p4
        | rt d m => rw [hb] at p4; exact p4
        | ex c x e m => rw [hb] at p4; exact p4
        | no => rw [hb] at p4; exact p4
    · have := p2
      unfold loopM at this
      rw [if_neg ho] at this
      exact False.elim this
  · have e : i = its.items.length := by omega
    subst e
    rw [List.drop_length] at p2
    by_cases ho : its.ok μ2 = true
    · have := p2
      unfold loopM at this
      rw [if_pos ho] at this
      exact .inl ⟨wk.stops H2 ρ2 μ2 e2.x w2 ho, this σ2 H2 ρ2 Exm.refl w2 re2⟩
    · have := p2
      unfold loopM at this
      rw [if_neg ho] at this
      exact False.elim this

/-- a result that may not raise -/
def Rs.bindN {α β : Type} : Rs α → (α → M β) → Rs β
  | .ok a μ, k => k a μ
  | _, _ => .no
def wipeE (env : CL.Env) : List Nat → CL.Env
  | [] => env
  | v :: vs => (wipeE env vs).set v none
def compM (t : Its) (put : D → CL.Env → Option CL.Env) (tt : MB) (te : ME) (env : CL.Env) : List D → M (List D)
  | [], μ => if t.ok μ = true then .ok [] μ else .no
  | d :: ds, μ => if t.ok μ = true then (match put d env with
    | none => .no
    | some env1 => (tt env1 μ).bindN fun b μ1 => if b = true then (te env1 μ1).bindN fun x μ2 => (compM t put tt te env ds μ2).bindN fun xs μ3 => .ok (x :: xs) μ3
      else compM t put tt te env ds μ1) else .no
def bYes : MB := fun _ μ => .ok true μ
/-- [te for t in mi if tt], the block's own slots vs; k: what becomes of the items -/
def mComp (k : List D → M D) (mi : MI) (tg : Tgt) (tt : MB) (te : ME) (vs : List Nat) : ME := fun env μ => (mi env μ).bind fun t m => if t.items.length ≤ lim then (compM t tg.put tt te (wipeE env vs) t.items m).bindN k else .no
theorem REnv.wipe {σ : L2.St} {env : CL.Env} (r : REnv K mg H ρ μ σ env) : ∀ vs : List Nat, REnv K mg H ρ μ (L2.wipe σ vs) (wipeE env vs)
  | [] => r
  | v :: vs => by
    have ih := REnv.wipe r vs
    refine ⟨by unfold L2.wipe wipeE; simp [ih.len], fun i d h => ?_⟩
    unfold wipeE at h
    unfold L2.wipe
    by_cases hi : v = i
    · subst hi
      by_cases hv : v < (wipeE env vs).length
      · rw [List.getElem?_set_self hv] at h; exact nomatch h
      · rw [List.getElem?_eq_none (by simpa using hv)] at h; exact nomatch h
    · rw [List.getElem?_set_ne hi] at h ⊢
      exact ih.at_ i d h
theorem wipe_wipe {σ : L2.St} {vs : List Nat} : L2.wipe (L2.wipe σ vs) vs = L2.wipe σ vs := by
  apply List.ext_getElem?
  intro j
  rw [wipe_get, wipe_get]
  by_cases hj : j ∈ vs
  · simp only [hj, if_true]
    cases σ[j]? <;> rfl
  · simp only [hj, if_false]
abbrev W0 : WX := fun _ _ _ _ => False
/-- the test of a comprehension -/
abbrev STs (X : Cx) (W : WX) (ifs : List Expr) (m : MB) : Prop := PTs X ifs (tMB X.K X.mg W m)
theorem PTs.imp {e : List Expr} {t t' : TT} (h : PTs X e t) (i : ∀ σ H Q, t' σ H Q → t σ H Q) : PTs X e t' := ⟨fun pins s σ H Q I q => h.run pins s σ H Q I (i σ H Q q)⟩
theorem sts_nil : STs X W [] bYes := PTs.imp pts_nil fun σ H Q ⟨ρ, μ, env, w, re, p⟩ => p H ρ Exm.refl w
theorem sts_one {c : Expr} {m : MB} (h : ST X W c m) : STs X W [c] m := pts_one h
abbrev Bl (X : Cx) (s : Shared) (H : Hp) (scope : Scope) (cl : List (Str × Addr)) (C : Addr) (fp : List Addr) : Cx := X.blk s H scope (compEnvC scope cl C X.env) fp
theorem bindN_ne {α : Type} {r : Rs α} {k : α → M D} {Q : VK} (p : Post K mg (r.bindN k) H ρ μ Q E) : ∃ a m, r = .ok a m ∧ Post K mg (k a m) H ρ μ Q E := by
  cases r with
  | ok a m => exact ⟨a, m, rfl, p⟩
  | ex c x m => exact False.elim p
  | no => exact False.elim p
end
end CL

namespace CL
open PySem L2 PySem.Spec PyProof.Rows
section
variable {K : PySem.W.Frag} {mg : Str → Option Value} {H H1 : Hp} {ρ ρ1 : Lc} {μ μ1 : Mem} {E : XK} {X : Cx} {W : WX} {es : List Expr} {pos : Pos} {ml : ML}
/-- what the turns of a comprehension have to bring -/
theorem comp_core {wi : TI} {g : TG} {its : Its} {t : Tgt} {tt : MB} {te : ME} {vs : List Nat} {σ : L2.St} {env : CL.Env} {J : It} {Q : VK} {k : List D → M D} (hl : its.items.length ≤ lim) (ht : ∀ i ∈ t.slots, i ∈ vs)
    (w1 : Wd K mg H1 ρ1 μ1) (re1 : REnv K mg H1 ρ1 μ1 σ env) (wk : WalkM K mg J its H1 ρ1 μ1) {ys0 : List D} {m0 : Mem} (hr : compM its t.put tt te (wipeE env vs) its.items μ1 = .ok ys0 m0)
    (hk : ∀ (H2 : Hp) (ρ2 : Lc) (Dd : Addr) (acc : List V), Exx H1 (CL.Live ρ1 μ1) ρ1.cs H2 (CL.Live ρ2 m0) ρ2.cs → (∀ a ∈ ρ1.hid, H2 a = H1 a) → ρ2.hid = Dd :: ρ1.hid → Wd K mg H2 ρ2 m0 → H1 Dd = none → H2 Dd = some (.lst acc) → RLm K mg H2 ρ2 m0 acc ys0 → Q (.ref Dd) H2) (Dd : Addr) (hD : H1 Dd = none) :
    ∃ W : Nat → Nat → Hp → Prop, (∃ m, W 0 m (upd H1 Dd (.lst []))) ∧ ∀ i m H, W i m H →
      (J.stop i H ∧ Q (.ref Dd) H) ∨ (J.go i H ∧ ∃ Nx : Hp → Prop, (∀ H', Nx H' → ∃ m', m' < m ∧ W (i + 1) m' H') ∧ ∀ x H', J.yld i H x H' → gM K mg t x (L2.wipe σ vs) H' fun σ2 H2 => L2.wipe σ2 vs = L2.wipe σ vs ∧ tMB K mg W0 tt σ2 H2 fun b H3 =>
        if b = true then tM K mg W0 te σ2 H3 fun y H4 => ∃ acc, H4 Dd = some (.lst acc) ∧ acc.length < sizeLine ∧ Nx (upd H4 Dd (.lst (acc ++ [y]))) else Nx H3) := by
  -- the invariant
  let INV : Nat → Hp → Prop := fun i H => ∃ ρ μ acc ys, Exx H1 (CL.Live ρ1 μ1) ρ1.cs H (CL.Live ρ μ) ρ.cs ∧ (∀ a ∈ ρ1.hid, H a = H1 a) ∧ ρ.hid = Dd :: ρ1.hid ∧ Wd K mg H ρ μ ∧ H Dd = some (.lst acc) ∧ acc.length ≤ i ∧ RLm K mg H ρ μ acc ys ∧ REnv K mg H ρ μ (L2.wipe σ vs) (wipeE env vs) ∧
    ∃ zs m, compM its t.put tt te (wipeE env vs) (its.items.drop i) μ = .ok zs m ∧ ys0 = ys ++ zs ∧ m = m0
  refine ⟨fun i m H => m = its.items.length - i ∧ i ≤ its.items.length ∧ INV i H, ⟨_, rfl, Nat.zero_le _, ?_⟩, ?_⟩
  · -- the start
    have hlv : ∀ a, CL.Live ⟨ρ1.cs, Dd :: ρ1.hid⟩ μ1 a → a = Dd ∨ CL.Live ρ1 μ1 a := fun a l => by
      rcases l with l | l
      · rcases List.mem_cons.mp l with l | l
        · exact .inl l
        · exact .inr (.inl l)
      · exact .inr (.inr l)
    have ex : Exx H1 (CL.Live ρ1 μ1) ρ1.cs (upd H1 Dd (.lst [])) (CL.Live ⟨ρ1.cs, Dd :: ρ1.hid⟩ μ1) ρ1.cs :=
      ⟨fun a o e _ => .inl (by rw [upd_ne (ne_of_none e hD)]; exact e), fun a o e l => by
        rcases hlv a l with z | z
        · exact absurd e (by rw [z, hD]; exact fun q => nomatch q)
        · exact z, fun _ _ z => z⟩
    have hne : ∀ a, (∃ o, H1 a = some o) → a ≠ Dd := fun a ⟨o, e⟩ z => by rw [z, hD] at e; exact nomatch e
    have nc : Dd ∉ ρ1.cs := fun z => hne Dd (w1.trk Dd z) rfl
    refine ⟨⟨ρ1.cs, Dd :: ρ1.hid⟩, μ1, [], [], ex, fun a ha => upd_ne (hne a (let ⟨o, e, _⟩ := (w1.hid a ha).1; ⟨o, e⟩)), rfl, ⟨w1.len, w1.nd, fun a ha => ?_, fun a ha => ?_, fun i d a h1 h2 => ?_⟩, upd_same, Nat.le_refl _, .nil, ?_, ys0, m0, by rw [List.drop_zero]; exact hr, rfl, rfl⟩
    · obtain ⟨o, e⟩ := w1.trk a ha
      exact ⟨o, by rw [upd_ne (hne a ⟨o, e⟩)]; exact e⟩
    · rcases List.mem_cons.mp ha with z | z
      · subst z
        exact ⟨⟨_, upd_same, fun _ z => nomatch z⟩, nc⟩
      · obtain ⟨⟨o, e, eo⟩, h2⟩ := w1.hid a z
        exact ⟨⟨o, by rw [upd_ne (hne a ⟨o, e⟩)]; exact e, eo⟩, h2⟩
    · have q := w1.cell i d a h1 h2
      exact q.mono ex fun _ => upd_ne (hne a (w1.trk a (List.mem_of_getElem? h2)))
    · have q := REnv.wipe re1 vs
      exact ⟨q.len, fun i d h => let ⟨v, h1, h2⟩ := q.at_ i d h; ⟨v, h1, h2.mono ex⟩⟩
  · rintro i m H ⟨rfl, hi, ρ, μ, acc, ys, ex, hh, hhid, w, hDd, hacc, ra, re, zs, m, hcomp, hys, hm⟩
    by_cases hlt : i < its.items.length
    · have hd : its.items.drop i = its.items[i] :: its.items.drop (i + 1) := List.drop_eq_getElem_cons hlt
      rw [hd] at hcomp
      unfold compM at hcomp
      by_cases ho : its.ok μ = true
      · rw [if_pos ho] at hcomp
        refine .inr ⟨wk.goes H ρ μ i ex w ho hlt, INV (i + 1), fun H' q => ⟨its.items.length - (i + 1), by omega, rfl, hlt, q⟩, fun x H3 hy => ?_⟩
        obtain ⟨e3, w3, r3⟩ := wk.yields H ρ μ i x H3 its.items[i] ex w ho (by simp [hlt]) hy
        cases hput : t.put its.items[i] (wipeE env vs) with
        | none => rw [hput] at hcomp; exact nomatch hcomp
        | some env1 =>
          rw [hput] at hcomp
          dsimp only at hcomp
          refine ⟨ρ, μ, wipeE env vs, env1, its.items[i], w3, re.mono e3, r3, hput, fun σ4 re4 hw4 => ⟨?_, ρ, μ, env1, w3, re4, ?_⟩⟩
          · rw [hw4 vs ht, wipe_wipe]
          · have hD3 : H3 Dd = some (.lst acc) := (e3.ha Dd (by rw [hhid]; exact List.mem_cons_self)).trans hDd
            have h3 : ∀ a ∈ ρ1.hid, H3 a = H1 a := fun a ha => (e3.ha a (by rw [hhid]; exact List.mem_cons_of_mem _ ha)).trans (hh a ha)
            cases htt : tt env1 μ with
            | ok b μ5 =>
              have hc5 : (if b = true then (te env1 μ5).bindN fun x μ2 => (compM its t.put tt te (wipeE env vs) (its.items.drop (i + 1)) μ2).bindN fun xs μ3 => .ok (x :: xs) μ3
                else compM its t.put tt te (wipeE env vs) (its.items.drop (i + 1)) μ5) = .ok zs m := by
                have := hcomp
                rw [htt] at this
                exact this
              intro H5 ρ5 e5 w5
              have hid5 : ρ5.hid = Dd :: ρ1.hid := e5.hs.trans hhid
              have hD5 : H5 Dd = some (.lst acc) := (e5.ha Dd (by rw [hhid]; exact List.mem_cons_self)).trans hD3
              have h5 : ∀ a ∈ ρ1.hid, H5 a = H1 a := fun a ha => (e5.ha a (by rw [hhid]; exact List.mem_cons_of_mem _ ha)).trans (h3 a ha)
              have ex5 := ex.trans (e3.x.trans e5.x)
              have re5 := (re.mono e3).mono e5
              have ra5 := (ra.mono e3.x).mono e5.x
              cases b with
              | false =>
                rw [if_neg Bool.false_ne_true]
                rw [if_neg Bool.false_ne_true] at hc5
                exact ⟨ρ5, μ5, acc, ys, ex5, h5, hid5, w5, hD5, Nat.le_succ_of_le hacc, ra5, re5, zs, m, hc5, hys, hm⟩
              | true =>
                rw [if_pos rfl]
                rw [if_pos rfl] at hc5
                refine ⟨ρ5, μ5, env1, w5, re4.mono e5, ?_⟩
                cases hte : te env1 μ5 with
                | ok y μ6 =>
                  rw [hte] at hc5
                  intro vy H6 ρ6 e6 w6 r6
                  have hid6 : ρ6.hid = Dd :: ρ1.hid := e6.hs.trans hid5
                  have hD6 : H6 Dd = some (.lst acc) := (e6.ha Dd (by rw [hid5]; exact List.mem_cons_self)).trans hD5
                  have h6 : ∀ a ∈ ρ1.hid, H6 a = H1 a := fun a ha => (e6.ha a (by rw [hid5]; exact List.mem_cons_of_mem _ ha)).trans (h5 a ha)
                  have ex6 := ex5.trans e6.x
                  have lD : CL.Live ρ6 μ6 Dd := .inl (by rw [hid6]; exact List.mem_cons_self)
                  have nD1 : ∀ a o, H1 a = some o → a ≠ Dd := fun a o e => ne_of_none e hD
                  have exu : Exx H6 (CL.Live ρ6 μ6) ρ6.cs (upd H6 Dd (.lst (acc ++ [vy]))) (CL.Live ρ6 μ6) ρ6.cs :=
                    ⟨fun a o e n => .inl (by rw [upd_ne (show a ≠ Dd from fun z => n (by rw [z]; exact lD))]; exact e), fun _ _ _ z => z, fun _ _ z => z⟩
                  have nc6 : Dd ∉ ρ6.cs := (w6.hid Dd (by rw [hid6]; exact List.mem_cons_self)).2
                  have w7 : Wd K mg (upd H6 Dd (.lst (acc ++ [vy]))) ρ6 μ6 := by
                    refine ⟨w6.len, w6.nd, fun a ha => ?_, fun a ha => ?_, fun i d a h1 h2 => ?_⟩
                    · obtain ⟨o, e⟩ := w6.trk a ha
                      exact ⟨o, by rw [upd_ne (show a ≠ Dd from fun z => nc6 (by rw [← z]; exact ha))]; exact e⟩
                    · by_cases z : a = Dd
                      · subst z
                        exact ⟨⟨_, upd_same, fun _ z => nomatch z⟩, nc6⟩
                      · obtain ⟨⟨o, e, eo⟩, h2⟩ := w6.hid a ha
                        exact ⟨⟨o, by rw [upd_ne z]; exact e, eo⟩, h2⟩
                    · exact (w6.cell i d a h1 h2).mono exu fun _ => upd_ne (show a ≠ Dd from fun z => nc6 (by rw [← z]; exact List.mem_of_getElem? h2))
                  refine ⟨acc, hD6, ?_, ?_⟩
                  · have : acc.length < lim := by omega
                    exact lim_lt (Nat.le_of_lt this)
                  · cases hrest : compM its t.put tt te (wipeE env vs) (its.items.drop (i + 1)) μ6 with
                    | ok zs' m' =>
                      have hc7 : Rs.ok (y :: zs') m' = Rs.ok zs m := by
                        have := hc5
                        unfold Rs.bindN at this
                        dsimp only at this
                        rw [hrest] at this
                        exact this
                      injection hc7 with z1 z2
                      subst z1 z2
                      refine ⟨ρ6, μ6, acc ++ [vy], ys ++ [y], ex6.trans exu, fun a ha => ?_, hid6, w7, upd_same, by simp; omega, (RL.append (ra5.mono e6.x) (.one r6)).mono exu, ?_, zs', m', hrest, by rw [hys]; simp, hm⟩
                      · have hn : a ≠ Dd := fun z => by
                          obtain ⟨⟨o, e, _⟩, _⟩ := w1.hid a ha
                          rw [z, hD] at e
                          exact nomatch e
                        rw [upd_ne hn]
                        exact h6 a ha
                      · have q := re5.mono e6
                        exact ⟨q.len, fun i d h => let ⟨v, h1, h2⟩ := q.at_ i d h; ⟨v, h1, h2.mono exu⟩⟩
                    | ex c x m' => 
                      have := hc5
                      unfold Rs.bindN at this
                      dsimp only at this
                      rw [hrest] at this
                      exact nomatch this
                    | no => 
                      have := hc5
                      unfold Rs.bindN at this
                      dsimp only at this
                      rw [hrest] at this
                      exact nomatch this
                | ex c x m' => rw [hte] at hc5; exact nomatch hc5
                | no => rw [hte] at hc5; exact nomatch hc5
            | ex c x m' => rw [htt] at hcomp; exact nomatch hcomp
            | no => rw [htt] at hcomp; exact nomatch hcomp
      · rw [if_neg ho] at hcomp
        exact nomatch hcomp
    · have e : i = its.items.length := by omega
      subst e
      rw [List.drop_length] at hcomp
      unfold compM at hcomp
      by_cases ho : its.ok μ = true
      · rw [if_pos ho] at hcomp
        injection hcomp with z1 z2
        subst z1 z2
        rw [List.append_nil] at hys
        subst hys hm
        refine .inl ⟨wk.stops H ρ μ ex w ho, ?_⟩
        exact hk H ρ Dd acc ex hh hhid w hD hDd ra
      · rw [if_neg ho] at hcomp
        exact nomatch hcomp

/-- the new list stands still | is mutable -/
def kFz : List D → M D := fun ys μ => .ok (.lst ys) μ
def kCe : List D → M D := fun ys μ => .ok (.cel μ.length) (μ ++ [some (.lst ys)])
/-- what a new list at Dd may become -/
def KNew (K : PySem.W.Frag) (mg : Str → Option Value) (k : List D → M D) : Prop :=
  ∀ (H1 : Hp) (ρ1 : Lc) (μ1 : Mem) (H2 : Hp) (ρ2 : Lc) (m : Mem) (Dd : Addr) (acc : List V) (ys : List D) (Q : VK) (E : XK), (∀ a ∈ ρ1.hid, ∃ o, H1 a = some o) → Exx H1 (CL.Live ρ1 μ1) ρ1.cs H2 (CL.Live ρ2 m) ρ2.cs → (∀ a ∈ ρ1.hid, H2 a = H1 a) → ρ2.hid = Dd :: ρ1.hid → Wd K mg H2 ρ2 m → H1 Dd = none → H2 Dd = some (.lst acc) →
    RLm K mg H2 ρ2 m acc ys → Post K mg (k ys m) H1 ρ1 μ1 Q E → Q (.ref Dd) H2
theorem kFz_ok : KNew K mg kFz := fun H1 ρ1 μ1 H ρ m Dd acc ys Q E ht ex hh hhid w hD hDd ra p => by
  have nc : Dd ∉ ρ.cs := (w.hid Dd (by rw [hhid]; exact List.mem_cons_self)).2
  have lf : ∀ a, CL.Live ⟨ρ.cs, ρ1.hid⟩ m a → CL.Live ρ m a := fun a l => by
    rcases l with l | l
    · exact .inl (by rw [hhid]; exact List.mem_cons_of_mem _ l)
    · exact .inr l
  have exf : Exx H (CL.Live ρ m) ρ.cs H (CL.Live ⟨ρ.cs, ρ1.hid⟩ m) ρ.cs := ⟨fun _ _ e _ => .inl e, fun a _ _ l => lf a l, fun _ _ z => z⟩
  refine p (.ref Dd) H ⟨ρ.cs, ρ1.hid⟩ ⟨ex.trans exf, rfl, hh⟩ ⟨w.len, w.nd, w.trk, fun a ha => w.hid a (by rw [hhid]; exact List.mem_cons_of_mem _ ha), fun i d a h1 h2 => (w.cell i d a h1 h2).mono exf fun _ => rfl⟩ (.lst ⟨.inl hDd, ?_⟩ (ra.mono exf))
  rintro (z | ⟨i, d, z, _⟩)
  · obtain ⟨o, e⟩ := ht Dd z
    rw [hD] at e
    exact nomatch e
  · exact nc (List.mem_of_getElem? z)
theorem kCe_ok : KNew K mg kCe := fun H1 ρ1 μ1 H ρ m Dd acc ys Q E ht ex hh hhid w hD hDd ra p => by
  have nc : Dd ∉ ρ.cs := (w.hid Dd (by rw [hhid]; exact List.mem_cons_self)).2
  have nh : Dd ∉ ρ1.hid := fun z => by
    obtain ⟨o, e⟩ := ht Dd z
    rw [hD] at e
    exact nomatch e
  have gl : ∀ (i : Nat) (a : Addr), (ρ.cs ++ [Dd])[i]? = some a → (i < ρ.cs.length ∧ ρ.cs[i]? = some a) ∨ (i = ρ.cs.length ∧ a = Dd) := fun i a h => by
    by_cases hi : i < ρ.cs.length
    · rw [List.getElem?_append_left hi] at h
      exact .inl ⟨hi, h⟩
    · rw [List.getElem?_append_right (by omega)] at h
      have z : i - ρ.cs.length = 0 := by
        have := (List.getElem?_eq_some_iff.mp h).1
        simp at this
        omega
      rw [z] at h
      exact .inr ⟨by omega, (Option.some.inj h).symm⟩
  have gm : ∀ (i : Nat) (d : D), i < ρ.cs.length → (m ++ [some (.lst ys)])[i]? = some (some d) → m[i]? = some (some d) := fun i d hi h => by
    rw [List.getElem?_append_left (by rw [← w.len]; exact hi)] at h
    exact h
  have lf : ∀ a, CL.Live ⟨ρ.cs ++ [Dd], ρ1.hid⟩ (m ++ [some (.lst ys)]) a → CL.Live ρ m a := fun a l => by
    rcases l with l | ⟨i, d, h1, h2, h3⟩
    · exact .inl (by rw [hhid]; exact List.mem_cons_of_mem _ l)
    · rcases gl i a h1 with ⟨hi, h⟩ | ⟨hi, h⟩
      · exact .inr ⟨i, d, h, gm i d hi h2, h3⟩
      · exact .inl (by rw [hhid, h]; exact List.mem_cons_self)
  have exf : Exx H (CL.Live ρ m) ρ.cs H (CL.Live ⟨ρ.cs ++ [Dd], ρ1.hid⟩ (m ++ [some (.lst ys)])) (ρ.cs ++ [Dd]) := ⟨fun _ _ e _ => .inl e, fun a _ _ l => lf a l, fun i a h => by
    rw [List.getElem?_append_left (List.getElem?_eq_some_iff.mp h).1]
    exact h⟩
  refine p (.ref Dd) H ⟨ρ.cs ++ [Dd], ρ1.hid⟩ ⟨ex.trans exf, rfl, hh⟩ ⟨by simp [w.len], ?_, fun a ha => ?_, fun a ha => ?_, fun i d a h1 h2 => ?_⟩ (.cel (by rw [← w.len]; simp))
  · rw [List.nodup_append]
    exact ⟨w.nd, by simp, fun a ha b hb => by
      have : b = Dd := by simpa using hb
      rw [this]
      exact fun z => nc (by rw [← z]; exact ha)⟩
  · rcases List.mem_append.mp ha with ha | ha
    · exact w.trk a ha
    · have : a = Dd := by simpa using ha
      rw [this]
      exact ⟨_, hDd⟩
  · obtain ⟨h1, h2⟩ := w.hid a (by rw [hhid]; exact List.mem_cons_of_mem _ ha)
    refine ⟨h1, fun z => ?_⟩
    rcases List.mem_append.mp z with z | z
    · exact h2 z
    · have : a = Dd := by simpa using z
      rw [this] at ha
      exact nh ha
  · rcases gl i a h2 with ⟨hi, h⟩ | ⟨hi, h⟩
    · exact (w.cell i d a (gm i d hi h1) h).mono exf fun _ => rfl
    · subst h
      rw [hi, w.len, List.getElem?_append_right (Nat.le_refl _)] at h1
      have e1 : D.lst ys = d := by simpa using h1
      subst e1
      exact ⟨acc, hDd, ra.mono exf⟩
theorem comp_in {mi : MI} {t : Tgt} {tt : MB} {te : ME} {k : List D → M D} {vs : List Nat} {σ : L2.St} {H : Hp} {Q : VK} {J0 : Unit} (hk : KNew K mg k) (ht : ∀ i ∈ t.slots, i ∈ vs) (h : tM K mg W (mComp k mi t tt te vs) σ H Q) :
    tLc (tMI K mg W mi) (gM K mg t) (tMB K mg W0 tt) (tM K mg W0 te) vs σ H Q := by
  obtain ⟨ρ, μ, env, w, re, p⟩ := h
  have p0 : PostI K mg (mi env μ) H ρ μ (fun J H1 => ∃ t' ρ1 μ1, Exm H ρ μ H1 ρ1 μ1 ∧ Wd K mg H1 ρ1 μ1 ∧ WalkM K mg J t' H1 ρ1 μ1 ∧ Post K mg (if t'.items.length ≤ lim then (compM t' t.put tt te (wipeE env vs) t'.items μ1).bindN k else .no) H1 ρ1 μ1 Q (fun c od H' => W c od σ H')) (fun c od H' => W c od σ H') := by
    unfold mComp at p
    cases hmi : mi env μ with
    | ok t' m => rw [hmi] at p; exact fun J H1 ρ1 e w1 wk => ⟨t', ρ1, m, e, w1, wk, Post.base e p⟩
    | ex c x m => rw [hmi] at p; exact p
    | no => rw [hmi] at p; exact p
  refine ⟨ρ, μ, env, w, re, PostI.imp p0 (fun J H1 ⟨its, ρ1, μ1, e1, w1, wk, p1⟩ => fun Dd hD => ?_) fun _ _ _ z => z⟩
  by_cases hl : its.items.length ≤ lim
  · rw [if_pos hl] at p1
    obtain ⟨ys0, m0, hr, p2⟩ := bindN_ne p1
    exact comp_core (wi := tMI K mg W mi) (g := gM K mg t) (k := k) hl ht w1 (re.mono e1) wk hr (fun H2 ρ2 Dd acc ex hh hid w2 hD hDd ra => hk H1 ρ1 μ1 H2 ρ2 m0 Dd acc ys0 Q _ (fun a ha => let ⟨o, e, _⟩ := (w1.hid a ha).1; ⟨o, e⟩) ex hh hid w2 hD hDd ra p2) Dd hD
  · rw [if_neg hl] at p1
    exact False.elim p1
/-- [..] -/
theorem se_comp {elt tg iter : Expr} {ifs : List Expr} {scope : Scope} {own : List (Str × Nat)} {mi : MI} {t : Tgt} {tt : MB} {te : ME} {k : List D → M D} (hk : KNew X.K X.mg k) (hc : X.calm = true) (hN : X.N.Nodup) (hi : SI X W tg iter mi) (ok : BlkOk X.N X.env.scope scope own)
    (ht : ∀ i ∈ t.slots, i ∈ own.map (·.2))
    (hg : ∀ (s : Shared) (H : Hp) (C : Addr) (cl : List (Str × Addr)) (fp : List Addr), SG (Bl X s H scope cl C fp) tg t) (hts : ∀ (s : Shared) (H : Hp) (C : Addr) (cl : List (Str × Addr)) (fp : List Addr), STs (Bl X s H scope cl C fp) W0 ifs tt)
    (he : ∀ (s : Shared) (H : Hp) (C : Addr) (cl : List (Str × Addr)) (fp : List Addr), SE (Bl X s H scope cl C fp) W0 elt te) (hs : ∀ x, foldedSetIterable iter X.env x = pure x := by intro _; rfl) :
    SE X W (.ListComp elt [⟨tg, iter, ifs, 0⟩] scope pos) (mComp k mi t tt te (own.map (·.2))) :=
  PE.imp (pe_lc hc hN hi ok hg hts he hs) fun σ H Q h => comp_in (J0 := ()) hk ht h
/-- name = [..] on one line, the name a plain local -/
theorem s_setLc {i : Nat} {y : Str} {py spos : Pos} {elt tg iter : Expr} {ifs : List Expr} {scope : Scope} {own : List (Str × Nat)} {mi : MI} {t : Tgt} {tt : MB} {te : ME} {k : List D → M D} (hk : KNew X.K X.mg k) (hc : X.calm = true) (hN : X.N.Nodup) (hi : SI X W tg iter mi) (ok : BlkOk X.N X.env.scope scope own)
    (ht : ∀ i ∈ t.slots, i ∈ own.map (·.2))
    (hg : ∀ (s : Shared) (H : Hp) (C : Addr) (cl : List (Str × Addr)) (fp : List Addr), SG (Bl X s H scope cl C fp) tg t) (hts : ∀ (s : Shared) (H : Hp) (C : Addr) (cl : List (Str × Addr)) (fp : List Addr), STs (Bl X s H scope cl C fp) W0 ifs tt)
    (he : ∀ (s : Shared) (H : Hp) (C : Addr) (cl : List (Str × Addr)) (fp : List Addr), SE (Bl X s H scope cl C fp) W0 elt te)
    (hsw : swapsWith (.ListComp elt [⟨tg, iter, ifs, 0⟩] scope pos) (some (.Name y py)) spos.line X.env = pure true) (hy : X.N[i]? = some y := by rfl) (hyl : X.env.scope.names.lookup y = some .local := by rfl) (hs : ∀ x, foldedSetIterable iter X.env x = pure x := by intro _; rfl) :
    SS X W (.Assign [.Name y py] (.ListComp elt [⟨tg, iter, ifs, 0⟩] scope pos) spos) (sAsg (mComp k mi t tt te (own.map (·.2))) (tgName i)) := by
  refine PS.imp (ps_setLc (g := gM X.K X.mg t) (tt := tMB X.K X.mg W0 tt) (te := tM X.K X.mg W0 te) hc hN hy hyl hsw hi ok hg hts he hs) fun Dn σ H ⟨ρ, μ, env, w, re, p⟩ => ?_
  refine comp_in (J0 := ()) hk ht (W := W) ⟨ρ, μ, env, w, re, Post.imp (post_st re p) (fun v H1 ⟨d, ρ1, μ1, e1, w1, re1, r1, p1⟩ => p1 _ H1 ρ1 Exm.refl w1 (re1.set i r1)) fun _ _ _ z => z⟩
end
end CL

namespace CL
open PySem L2 PySem.Spec PyProof.Rows
section
variable {K : PySem.W.Frag} {mg : Str → Option Value} {H H1 : Hp} {ρ ρ1 : Lc} {μ μ1 : Mem} {E : XK}

/-- as a list: still or mutable -/
def lstOf (μ : Mem) : D → Option (List D)
  | .lst ds => some ds
  | .cel i => match μ[i]? with
    | some (some (.lst ds)) => some ds
    | some (some (.tup [.lst ds])) => some ds
    | _ => none
  | _ => none
def dctOf (μ : Mem) : D → Option (Bool × List (D × D))
  | .dct t ds => some (t, ds)
  | .cel i => match μ[i]? with
    | some (some (.dct t ds)) => some (t, ds)
    | some (some (.tup [.dct t ds])) => some (t, ds)
    | _ => none
  | _ => none
theorem lstOf_ok {v : V} {d : D} {ds : List D} (w : Wd K mg H ρ μ) (r : Rm K mg H ρ μ v d) (h : lstOf μ d = some ds) : ∃ a vs, v = .ref a ∧ Rd H a (.lst vs) ∧ RLm K mg H ρ μ vs ds := by
  cases r with
  | lst f rl =>
    have e := Option.some.inj h
    subst e
    exact ⟨_, _, rfl, f.1, rl⟩
  | cel hc =>
    rename_i a i
    unfold lstOf at h
    dsimp only at h
    split at h
    · rename_i es hm
      have e := Option.some.inj h
      subst e
      obtain ⟨vs, h2, h3⟩ := w.cell i _ a hm hc
      exact ⟨a, vs, rfl, .inl h2, h3⟩
    · rename_i es hm
      have e := Option.some.inj h
      subst e
      obtain ⟨_, _, r⟩ := w.cell i _ a hm hc
      generalize hd : D.lst es = d at r
      cases r with
      | lst f rl =>
        cases hd
        exact ⟨a, _, rfl, f.1, rl⟩
      | _ => exact nomatch hd
    · exact nomatch h
  | _ => exact nomatch (show (none : Option (List D)) = some _ from h)
def opII (f : Int → Int → Option D) : D → D → M D
  | .int i, .int j, μ => match f i j with
    | some d => .ok d μ
    | none => .no
  | _, _, _ => .no
theorem opM_II {C : Int → Int → Prop} {g : Int → Int → V} {f : Int → Int → Option D} (h : ∀ i j d, f i j = some d → C i j ∧ ∀ H Lv ρ, R K mg H Lv ρ (g i j) d) : OpM K mg (rI C g) (opII f) := by
  intro H ρ μ x y a b Q E w rx ry p
  cases rx with
  | int i =>
    cases ry with
    | int j =>
      have p' : Post K mg (match f i j with
        | some d => Rs.ok d μ
        | none => .no) H ρ μ Q E := p
      cases hf : f i j with
      | none => rw [hf] at p'; exact False.elim p'
      | some d =>
        rw [hf] at p'
        obtain ⟨h1, h2⟩ := h i j d hf
        exact ⟨i, j, rfl, rfl, h1, Post.ok w p' (h2 _ _ _)⟩
    | _ => exact False.elim p
  | _ => cases ry <;> exact False.elim p
theorem opM_II0 {g : Int → Int → V} {f : Int → Int → Option D} (h : ∀ i j d, f i j = some d → ∀ H Lv ρ, R K mg H Lv ρ (g i j) d) : OpM K mg (rI0 g) (opII f) := by
  intro H ρ μ x y a b Q E w rx ry p
  obtain ⟨i, j, e1, e2, _, q⟩ := opM_II (C := fun _ _ => True) (fun i j d e => ⟨trivial, h i j d e⟩) H ρ μ x y a b Q E w rx ry p
  exact ⟨i, j, e1, e2, q⟩
def isPow (j : Int) : Bool := decide (0 ≤ j ∧ j ≤ 1000000)
def dSub : D → D → M D := opII fun i j => some (.int (i - j))
def dFdiv : D → D → M D := opII fun i j => if 0 < j ∧ j.natAbs.log2 < 9000 then some (.int (i / j)) else none
def dMod : D → D → M D := opII fun i j => if 0 < j then some (.int (i % j)) else none
def dPow : D → D → M D := opII fun i j => if 0 ≤ j ∧ j ≤ 1000000 ∧ i.natAbs < 2 ^ 64 then some (.int (i ^ j.toNat)) else none
def dLt : D → D → M D := opII fun i j => some (.bl (decide (i < j)))
def dLe : D → D → M D := opII fun i j => some (.bl (decide (i ≤ j)))
def dGt : D → D → M D := opII fun i j => some (.bl (decide (j < i)))
def dGe : D → D → M D := opII fun i j => some (.bl (decide (j ≤ i)))
theorem m_sub : OpM K mg (rI0 fun i j => V.int (i - j)) dSub := opM_II0 fun i j d e => by
  have e := Option.some.inj e; subst e; exact fun _ _ _ => .int _
theorem m_fdiv : OpM K mg (rI CDivW fun i j => V.int (i / j)) dFdiv := opM_II fun i j d e => by
  split at e
  · rename_i h
    have e := Option.some.inj e; subst e; exact ⟨h, fun _ _ _ => .int _⟩
  · exact nomatch e
theorem m_mod : OpM K mg (rI (fun _ j => 0 < j) fun i j => V.int (i % j)) dMod := opM_II fun i j d e => by
  split at e
  · rename_i h
    have e := Option.some.inj e; subst e; exact ⟨h, fun _ _ _ => .int _⟩
  · exact nomatch e
theorem m_pow : OpM K mg (rI CPow fun i j => V.int (i ^ j.toNat)) dPow := opM_II fun i j d e => by
  split at e
  · rename_i h
    have e := Option.some.inj e; subst e; exact ⟨h, fun _ _ _ => .int _⟩
  · exact nomatch e
theorem m_lt : OpM K mg (rI0 fun i j => V.bl (decide (i < j))) dLt := opM_II0 fun i j d e => by
  have e := Option.some.inj e; subst e; exact fun _ _ _ => .bl _
theorem m_le : OpM K mg (rI0 fun i j => V.bl (decide (i ≤ j))) dLe := opM_II0 fun i j d e => by
  have e := Option.some.inj e; subst e; exact fun _ _ _ => .bl _
theorem m_gt : OpM K mg (rI0 fun i j => V.bl (decide (j < i))) dGt := opM_II0 fun i j d e => by
  have e := Option.some.inj e; subst e; exact fun _ _ _ => .bl _
theorem m_ge : OpM K mg (rI0 fun i j => V.bl (decide (j ≤ i))) dGe := opM_II0 fun i j d e => by
  have e := Option.some.inj e; subst e; exact fun _ _ _ => .bl _

theorem opR_or {X : Cx} {f : Value → Value → Sem Value} {r r' : R2} (h : OpR X f r) (h' : OpR X f r') : OpR X f (fun x y H Q => r x y H Q ∨ r' x y H Q) := OpR.or h h'
/-- + -/
def mulOk (i j : Int) : Bool := decide (i.natAbs.log2 + j.natAbs.log2 + 2 ≤ 134217728)
def dAdd : D → D → M D := fun a b μ => match a, b with
  | .int i, .int j => .ok (.int (i + j)) μ
  | .str x, .str y => if x.length + y.length ≤ lim then .ok (.str (x ++ y)) μ else .no
  | .tup xs, .tup ys => if xs.length + ys.length ≤ lim then .ok (.tup (xs ++ ys)) μ else .no
  | a, b => match lstOf μ a, lstOf μ b with
    | some xs, some ys => if xs.length + ys.length ≤ lim then .ok (.lst (xs ++ ys)) μ else .no
    | _, _ => .no
end
end CL

namespace L2
open PySem PySem.Spec PyProof.Rows
section
variable {X : Cx} {pins : List (Addr × Obj)} {σ : St} {H : Hp} {s : Shared} {l : Addr} {xs : List V}
theorem Inv.lstR (I : Inv X pins σ H s) (hH : Rd H l (.lst xs)) : xs.length ≤ sizeLine ∧ ∃ (its : List Value) (n : Nat), Vals xs its ∧ xs.length = its.length ∧ s.heap.get? l = some { cls := .type "list", data := .seq its.toArray n } := by
  obtain ⟨z, its, n, r, e⟩ := hH.ok I.hok
  exact ⟨z, its, n, r, r.length, e⟩
def rCatR : R2 := fun x y H Q => ∃ l b xs zs, x = .ref l ∧ y = .ref b ∧ Rd H l (.lst xs) ∧ Rd H b (.lst zs) ∧ xs.length + zs.length ≤ sizeLine ∧ ∀ p, H p = none → Q (.ref p) (upd H p (.lst (xs ++ zs)))
theorem op_catR : OpR X (binaryOp .Add) rCatR := by
  intro pins s σ H x y v u Q I rx ry h
  obtain ⟨l, b, xs, zs, rfl, rfl, hH, hB, hz, q⟩ := h
  cases rx
  cases ry
  obtain ⟨z, its, n, r, hl, e⟩ := I.lstR hH
  obtain ⟨z2, its2, n2, r2, hl2, e2⟩ := I.lstR hB
  refine PySem.P.add_list e e2 ?_ (by rw [List.size_toArray, List.size_toArray]; omega)
  have ea : its.toArray ++ its2.toArray = (its ++ its2).toArray := by simp
  rw [ea]
  exact ⟨.ref _, _, I.lnew (t' := s.toks) (r.append r2) (by rw [List.length_append]; omega), rfl, q _ I.fresh⟩
end
end L2
namespace CL
open PySem L2 PySem.Spec PyProof.Rows
section
variable {K : PySem.W.Frag} {mg : Str → Option Value} {H H1 : Hp} {ρ ρ1 : Lc} {μ μ1 : Mem} {E : XK}
theorem Post.newL {vs : List V} {ds : List D} {Q : VK} (w : Wd K mg H ρ μ) (r : RLm K mg H ρ μ vs ds) (p : Post K mg (.ok (.lst ds) μ) H ρ μ Q E) : ∀ a, H a = none → Q (.ref a) (upd H a (.lst vs)) :=
  fun a ha => p (.ref a) _ ρ (Exm.new w ha) (w.new ha) (Rm.newL w ha r)
theorem Post.newT {vs : List V} {ds : List D} {Q : VK} (w : Wd K mg H ρ μ) (r : RLm K mg H ρ μ vs ds) (p : Post K mg (.ok (.tup ds) μ) H ρ μ Q E) : ∀ a, H a = none → Q (.ref a) (upd H a (.tup vs)) :=
  fun a ha => p (.ref a) _ ρ (Exm.new w ha) (w.new ha) (Rm.newT w ha r)
theorem Post.newCe {vs : List V} {ds : List D} {Q : VK} (w : Wd K mg H ρ μ) (r : RLm K mg H ρ μ vs ds) (p : Post K mg (.ok (.cel μ.length) (μ ++ [some (.lst ds)])) H ρ μ Q E) : ∀ a, H a = none → Q (.ref a) (upd H a (.lst vs)) :=
  fun a ha => p (.ref a) _ (ρ.push a) (Exm.newC w ha) (Wd.newCL w ha r) (Rm.newC w)
/-- what becomes of a new list: it stands, or it is mutable -/
def NewK (k : List D → M D) : Prop := ∀ (K : PySem.W.Frag) (mg : Str → Option Value) (H : Hp) (ρ : Lc) (μ : Mem) (vs : List V) (ds : List D) (Q : VK) (E : XK), Wd K mg H ρ μ → RLm K mg H ρ μ vs ds → Post K mg (k ds μ) H ρ μ Q E → ∀ a, H a = none → Q (.ref a) (upd H a (.lst vs))
theorem newK_fz : NewK kFz := fun _ _ _ _ _ _ _ _ _ w r p => Post.newL w r p
theorem newK_ce : NewK kCe := fun _ _ _ _ _ _ _ _ _ w r p => Post.newCe w r p
/-- + (k: what becomes of a list) -/
def dAddK (k : List D → M D) : D → D → M D := fun a b μ => match lstOf μ a with
  | some xs => (match lstOf μ b with
    | some ys => if xs.length + ys.length ≤ lim then k (xs ++ ys) μ else .no
    | none => .no)
  | none => (match a, b with
    | .int i, .int j => .ok (.int (i + j)) μ
    | .str x, .str y => if x.length + y.length ≤ lim then .ok (.str (x ++ y)) μ else .no
    | .tup xs, .tup ys => if xs.length + ys.length ≤ lim then .ok (.tup (xs ++ ys)) μ else .no
    | _, _ => .no)
def rAddA (K : PySem.W.Frag) : R2 := fun x y H Q => rI0 (fun i j => V.int (i + j)) x y H Q ∨ (∃ i j, x = .str i ∧ y = .str j ∧ i.length + j.length ≤ sizeLine ∧ Q (.str (i ++ j)) H) ∨ rCatR x y H Q ∨ rCatA K x y H Q
theorem op_addA {X : Cx} : OpR X (binaryOp .Add) (rAddA X.K) := OpR.or op_add (OpR.or op_add_str (OpR.or op_catR op_catA))
theorem m_add {k : List D → M D} (hk : NewK k) : OpM K mg (rAddA K) (dAddK k) := by
  intro H ρ μ x y a b Q E w rx ry p
  unfold dAddK at p
  cases hx : lstOf μ a with
  | some xs =>
    rw [hx] at p
    cases hy : lstOf μ b with
    | none => rw [hy] at p; exact False.elim p
    | some ys =>
      rw [hy] at p
      dsimp only at p
      split at p
      · rename_i hl
        obtain ⟨l, vs, e1, h1, r1⟩ := lstOf_ok w rx hx
        obtain ⟨l2, ws, e2, h2, r2⟩ := lstOf_ok w ry hy
        exact .inr (.inr (.inl ⟨l, l2, vs, ws, e1, e2, h1, h2, by rw [r1.length, r2.length]; exact lim_line hl, hk _ _ _ _ _ _ _ _ _ w (r1.append r2) p⟩))
      · exact False.elim p
  | none =>
    rw [hx] at p
    cases rx with
    | int i => cases ry with
      | int j => exact .inl ⟨i, j, rfl, rfl, Post.ok w p (.int _)⟩
      | _ => exact False.elim p
    | str i => cases ry with
      | str j =>
        dsimp only at p
        split at p
        · rename_i hl
          exact .inr (.inl ⟨i, j, rfl, rfl, lim_line hl, Post.ok w p (.str _)⟩)
        · exact False.elim p
      | _ => exact False.elim p
    | tup f1 r1 => cases ry with
      | tup f2 r2 =>
        dsimp only at p
        split at p
        · rename_i hl
          refine .inr (.inr (.inr ⟨_, _, _, _, rfl, rfl, f1.sq, f2.sq, by rw [r1.length, r2.length]; exact lim_line hl, fun e => ?_, fun e e2 => ?_, fun _ _ => Post.newT w (r1.append r2) p⟩))
          · subst e
            have := r1.length
            have z : _ = ([] : List D) := List.length_eq_zero_iff.mp this.symm
            subst z
            exact Post.ok w p (.tup f2 r2)
          · subst e2
            have := r2.length
            have z : _ = ([] : List D) := List.length_eq_zero_iff.mp this.symm
            subst z
            rw [List.append_nil] at p
            exact Post.ok w p (.tup f1 r1)
        · exact False.elim p
      | _ => exact False.elim p
    | _ => exact False.elim p
/-- * of ints -/
theorem intBits_le (x : Int) : Builtin.Int.intBits x ≤ x.natAbs.log2 + 1 := by
  unfold Builtin.Int.intBits
  split <;> omega
def dMul : D → D → M D := opII fun i j => if i.natAbs.log2 + j.natAbs.log2 + 2 ≤ 134217728 then some (.int (i * j)) else none
theorem m_mul : OpM K mg (rI CMulX fun i j => V.int (i * j)) dMul := opM_II fun i j d e => by
  split at e
  · rename_i h
    have e := Option.some.inj e; subst e
    refine ⟨?_, fun _ _ _ => .int _⟩
    have h1 := intBits_le i
    have h2 := intBits_le j
    unfold CMulX
    omega
  · exact nomatch e

/-- as the library's plain data, mutable objects as they are now -/
def pd (μ : Mem) : Nat → D → Option PyData
  | 0, _ => none
  | n + 1, d => match d with
    | .non => some .none
    | .bl b => some (.bool b)
    | .int i => some (.int i)
    | .str x => some (.str x)
    | .lst ds => (ds.mapM (pd μ n)).map .list
    | .tup ds => (ds.mapM (pd μ n)).map .tuple
    | .cel i => match μ[i]? with
      | some (some (.lst ds)) => (ds.mapM (pd μ n)).map .list
      | _ => none
    | _ => none
theorem mapM_ok {f : D → Option PyData} (hf : ∀ v d p, Rm K mg H ρ μ v d → f d = some p → Dp K H v p) : ∀ {vs : List V} {ds : List D} {ps : List PyData}, RLm K mg H ρ μ vs ds → ds.mapM f = some ps → DpAll K H vs ps
  | _, _, ps, .nil, h => by
    have e : some [] = some ps := by simpa using h
    have e := Option.some.inj e
    subst e
    exact .nil
  | _, _, ps, .cons (d := d) (ds := ds) r t, h => by
    rw [List.mapM_cons] at h
    cases h1 : f d with
    | none => rw [h1] at h; exact nomatch h
    | some p =>
      rw [h1] at h
      cases h2 : ds.mapM f with
      | none => rw [h2] at h; exact nomatch h
      | some ps2 =>
        rw [h2] at h
        have e : some (p :: ps2) = some ps := h
        have e := Option.some.inj e
        subst e
        exact .cons (hf _ _ _ r h1) (mapM_ok hf t h2)
theorem pd_ok (w : Wd K mg H ρ μ) : ∀ (n : Nat) (v : V) (d : D) (p : PyData), Rm K mg H ρ μ v d → pd μ n d = some p → Dp K H v p
  | 0, _, _, _, _, h => nomatch h
  | n + 1, v, d, p, r, h => by
    have ih := pd_ok w n
    cases r with
    | non => have e := Option.some.inj h; subst e; exact .non
    | bl b => have e := Option.some.inj h; subst e; exact .bl b
    | int b => have e := Option.some.inj h; subst e; exact .int b
    | str b => have e := Option.some.inj h; subst e; exact .str b
    | lst f rl =>
      rename_i a vs ds
      have h1 : (ds.mapM (pd μ n)).map PyData.list = some p := h
      cases h2 : ds.mapM (pd μ n) with
      | none => rw [h2] at h1; exact nomatch h1
      | some ps =>
        rw [h2] at h1
        have e := Option.some.inj h1
        subst e
        exact .lst f.sq (mapM_ok ih rl h2)
    | tup f rl =>
      rename_i a vs ds
      have h1 : (ds.mapM (pd μ n)).map PyData.tuple = some p := h
      cases h2 : ds.mapM (pd μ n) with
      | none => rw [h2] at h1; exact nomatch h1
      | some ps =>
        rw [h2] at h1
        have e := Option.some.inj h1
        subst e
        exact .tup f.sq (mapM_ok ih rl h2)
    | cel hc =>
      rename_i a i
      have h1 : (match μ[i]? with
        | some (some (.lst ds)) => (ds.mapM (pd μ n)).map PyData.list
        | _ => none) = some p := h
      cases hm : μ[i]? with
      | none => rw [hm] at h1; exact nomatch h1
      | some o =>
        rw [hm] at h1
        cases o with
        | none => exact nomatch h1
        | some d =>
          cases d with
          | lst es =>
            obtain ⟨vs, h2, h3⟩ := w.cell i _ a hm hc
            have h1 : (es.mapM (pd μ n)).map PyData.list = some p := h1
            cases h4 : es.mapM (pd μ n) with
            | none => rw [h4] at h1; exact nomatch h1
            | some ps =>
              rw [h4] at h1
              have e := Option.some.inj h1
              subst e
              exact .lst (.inl (.inl h2)) (mapM_ok ih h3 h4)
          | _ => exact nomatch h1
    | _ => exact nomatch (show (none : Option PyData) = some p from h)
def dEq : D → D → M D := fun a b μ => match pd μ 40 a, pd μ 40 b with
  | some x, some y => if SeqAt.shaped x && SeqAt.shaped y then .ok (.bl (PyData.eqv x y)) μ else .no
  | _, _ => .no
def dNe : D → D → M D := fun a b μ => match pd μ 40 a, pd μ 40 b with
  | some x, some y => if SeqAt.shaped x && SeqAt.shaped y then .ok (.bl (!PyData.eqv x y)) μ else .no
  | _, _ => .no
theorem m_eq : OpM K mg (rEqD K) dEq := by
  intro H ρ μ x y a b Q E w rx ry p
  unfold dEq at p
  cases h1 : pd μ 40 a with
  | none => rw [h1] at p; exact False.elim p
  | some d =>
    cases h2 : pd μ 40 b with
    | none => rw [h1, h2] at p; exact False.elim p
    | some e =>
      rw [h1, h2] at p
      dsimp only at p
      split at p
      · rename_i h
        obtain ⟨s1, s2⟩ := Bool.and_eq_true_iff.mp h
        exact ⟨d, e, pd_ok w 40 x a d rx h1, pd_ok w 40 y b e ry h2, s1, s2, Post.ok w p (.bl _)⟩
      · exact False.elim p
theorem m_ne : OpM K mg (rNeD K) dNe := by
  intro H ρ μ x y a b Q E w rx ry p
  unfold dNe at p
  cases h1 : pd μ 40 a with
  | none => rw [h1] at p; exact False.elim p
  | some d =>
    cases h2 : pd μ 40 b with
    | none => rw [h1, h2] at p; exact False.elim p
    | some e =>
      rw [h1, h2] at p
      dsimp only at p
      split at p
      · rename_i h
        obtain ⟨s1, s2⟩ := Bool.and_eq_true_iff.mp h
        exact ⟨d, e, pd_ok w 40 x a d rx h1, pd_ok w 40 y b e ry h2, s1, s2, Post.ok w p (.bl _)⟩
      · exact False.elim p
/-- x in a list | a sign in a text -/
def inLst (neg : Bool) (a b : D) : M D := fun μ => match lstOf μ b with
    | some _ => (match pd μ 40 a, pd μ 40 b with
      | some x, some (.list ys) => if SeqAt.shaped x && SeqAt.shaped (.list ys) then .ok (.bl (if neg then !ys.any fun z => PyData.eqv z x else ys.any fun z => PyData.eqv z x)) μ else .no
      | _, _ => .no)
    | none => .no
def inOf (neg : Bool) : D → D → M D := fun a b μ => match b with
  | .str z => (match a with
    | .str x => (match x.cps.toList with
      | [c] => .ok (.bl (if neg then !decide (c ∈ z.cps.toList) else decide (c ∈ z.cps.toList))) μ
      | _ => .no)
    | _ => .no)
  | _ => inLst neg a b μ
def rInA (K : PySem.W.Frag) : R2 := fun x y H Q => rInS x y H Q ∨ rInD K x y H Q
def rNotInA (K : PySem.W.Frag) : R2 := fun x y H Q => rNotInS x y H Q ∨ rNotInD K x y H Q
theorem inLst_ok {neg : Bool} {x y : V} {a b : D} {Q : VK} (w : Wd K mg H ρ μ) (rx : Rm K mg H ρ μ x a) (ry : Rm K mg H ρ μ y b) (p : Post K mg (inLst neg a b μ) H ρ μ Q E) :
    ∃ d ds, Dp K H x d ∧ Dp K H y (.list ds) ∧ SeqAt.shaped d = true ∧ SeqAt.shaped (.list ds) = true ∧ Q (.bl (if neg then !ds.any fun z => PyData.eqv z d else ds.any fun z => PyData.eqv z d)) H := by
  unfold inLst at p
  cases h0 : lstOf μ b with
  | none => rw [h0] at p; exact False.elim p
  | some _ =>
    rw [h0] at p
    dsimp only at p
    cases h1 : pd μ 40 a with
    | none => rw [h1] at p; exact False.elim p
    | some d =>
      cases h2 : pd μ 40 b with
      | none => rw [h1, h2] at p; exact False.elim p
      | some e =>
        rw [h1, h2] at p
        cases e with
        | list ys =>
          dsimp only at p
          split at p
          · rename_i h
            obtain ⟨s1, s2⟩ := Bool.and_eq_true_iff.mp h
            exact ⟨d, ys, pd_ok w 40 x a d rx h1, pd_ok w 40 y b _ ry h2, s1, s2, Post.ok w p (.bl _)⟩
          · exact False.elim p
        | _ => exact False.elim p
theorem m_in : OpM K mg (rInA K) (inOf false) := by
  intro H ρ μ x y a b Q E w rx ry p
  unfold inOf at p
  cases ry with
  | str z =>
    cases rx with
    | str u =>
      dsimp only at p
      split at p
      · rename_i c hc
        refine .inl ⟨c, z, ?_, rfl, Post.ok w p (.bl _)⟩
        obtain ⟨⟨l⟩⟩ := u
        have e : l = [c] := hc
        rw [e]
      · exact False.elim p
    | _ => exact False.elim p
  | _ =>
    refine .inr ?_
    have q := inLst_ok (neg := false) w rx (by first | exact .non | exact .bl _ | exact .int _ | exact .ty _ | exact .lst ‹_› ‹_› | exact .tup ‹_› ‹_› | exact .dK ‹_› ‹_› ‹_› ‹_› ‹_› | exact .dT ‹_› ‹_› ‹_› ‹_› ‹_› | exact .ins ‹_› ‹_› ‹_› ‹_› ‹_› ‹_› | exact .cel ‹_› | exact .exc ‹_› ‹_› ‹_› ‹_› ‹_› ‹_› ‹_› ‹_›) p
    exact q
theorem m_notin : OpM K mg (rNotInA K) (inOf true) := by
  intro H ρ μ x y a b Q E w rx ry p
  unfold inOf at p
  cases ry with
  | str z =>
    cases rx with
    | str u =>
      dsimp only at p
      split at p
      · rename_i c hc
        refine .inl ⟨c, z, ?_, rfl, Post.ok w p (.bl _)⟩
        obtain ⟨⟨l⟩⟩ := u
        have e : l = [c] := hc
        rw [e]
      · exact False.elim p
    | _ => exact False.elim p
  | _ =>
    refine .inr ?_
    have q := inLst_ok (neg := true) w rx (by first | exact .non | exact .bl _ | exact .int _ | exact .ty _ | exact .lst ‹_› ‹_› | exact .tup ‹_› ‹_› | exact .dK ‹_› ‹_› ‹_› ‹_› ‹_› | exact .dT ‹_› ‹_› ‹_› ‹_› ‹_› | exact .ins ‹_› ‹_› ‹_› ‹_› ‹_› ‹_› | exact .cel ‹_› | exact .exc ‹_› ‹_› ‹_› ‹_› ‹_› ‹_› ‹_› ‹_›) p
    exact q
def dIsN (neg : Bool) : D → D → M D := fun a b μ => match b with
  | .non => .ok (.bl (match a with
    | .non => !neg
    | _ => neg)) μ
  | _ => .no
theorem m_isN : OpM K mg rIsN (dIsN false) := by
  intro H ρ μ x y a b Q E w rx ry p
  cases ry with
  | non => 
    refine ⟨rfl, ?_⟩
    cases rx <;> exact Post.ok w p (.bl _)
  | _ => exact False.elim p
theorem m_notN : OpM K mg rNotN (dIsN true) := by
  intro H ρ μ x y a b Q E w rx ry p
  cases ry with
  | non => 
    refine ⟨rfl, ?_⟩
    cases rx <;> exact Post.ok w p (.bl _)
  | _ => exact False.elim p
def dIsB (neg : Bool) : D → D → M D := fun a b μ => match a, b with
  | .bl x, .bl y => .ok (.bl (if neg then !decide (x = y) else decide (x = y))) μ
  | _, _ => .no
theorem m_isB : OpM K mg rIsB (dIsB false) := by
  intro H ρ μ x y a b Q E w rx ry p
  cases rx with
  | bl b1 => cases ry with
    | bl b2 => exact ⟨b1, b2, rfl, rfl, Post.ok w p (.bl _)⟩
    | _ => exact False.elim p
  | _ => cases ry <;> exact False.elim p
theorem m_notB : OpM K mg rNotB (dIsB true) := by
  intro H ρ μ x y a b Q E w rx ry p
  cases rx with
  | bl b1 => cases ry with
    | bl b2 => exact ⟨b1, b2, rfl, rfl, Post.ok w p (.bl _)⟩
    | _ => exact False.elim p
  | _ => cases ry <;> exact False.elim p
end
end CL

namespace CL
open PySem L2 PySem.Spec PyProof.Rows
section
variable {K : PySem.W.Frag} {mg : Str → Option Value} {H H1 : Hp} {ρ ρ1 : Lc} {μ μ1 : Mem} {E : XK}
theorem live_set {i : Nat} {d d' : D} (hm : μ[i]? = some (some d)) (hd : mutD d = true) (hd' : mutD d' = true) (a : Addr) : Live ρ (μ.set i (some d')) a ↔ Live ρ μ a := by
  have hl : i < μ.length := (List.getElem?_eq_some_iff.mp hm).1
  constructor
  · rintro (l | ⟨j, e, h1, h2, h3⟩)
    · exact .inl l
    · by_cases hj : i = j
      · subst hj
        exact .inr ⟨i, d, h1, hm, hd⟩
      · rw [List.getElem?_set_ne hj] at h2
        exact .inr ⟨j, e, h1, h2, h3⟩
  · rintro (l | ⟨j, e, h1, h2, h3⟩)
    · exact .inl l
    · by_cases hj : i = j
      · subst hj
        exact .inr ⟨i, d', h1, List.getElem?_set_self hl, hd'⟩
      · exact .inr ⟨j, e, h1, by rw [List.getElem?_set_ne hj]; exact h2, h3⟩
theorem exx_set {i : Nat} {a : Addr} {d d' : D} {o : HO} (hc : ρ.cs[i]? = some a) (hm : μ[i]? = some (some d)) (hd : mutD d = true := by rfl) (hd' : mutD d' = true := by rfl) : Exx H (Live ρ μ) ρ.cs (upd H a o) (Live ρ (μ.set i (some d'))) ρ.cs :=
  ⟨fun b u e n => .inl (by rw [upd_ne (show b ≠ a from fun z => n (by rw [z]; exact .inr ⟨i, d, hc, hm, hd⟩))]; exact e), fun b u e l => (live_set hm hd hd' b).mp l, fun _ _ z => z⟩
theorem exm_set {i : Nat} {a : Addr} {d d' : D} {o : HO} (w : Wd K mg H ρ μ) (hc : ρ.cs[i]? = some a) (hm : μ[i]? = some (some d)) (hd : mutD d = true := by rfl) (hd' : mutD d' = true := by rfl) : Exm H ρ μ (upd H a o) ρ (μ.set i (some d')) :=
  ⟨exx_set hc hm hd hd', rfl, fun b hb => upd_ne fun z => (w.hid b hb).2 (by rw [z]; exact List.mem_of_getElem? hc)⟩
theorem wd_set {i : Nat} {a : Addr} {d d' : D} {o : HO} (w : Wd K mg H ρ μ) (hc : ρ.cs[i]? = some a) (hm : μ[i]? = some (some d)) (c : CellAt K mg (upd H a o) (Live ρ (μ.set i (some d'))) ρ.cs a d') (hd : mutD d = true := by rfl) (hd' : mutD d' = true := by rfl) : Wd K mg (upd H a o) ρ (μ.set i (some d')) := by
  have hl : i < μ.length := (List.getElem?_eq_some_iff.mp hm).1
  refine ⟨by simp [w.len], w.nd, fun b hb => ?_, fun b hb => ?_, fun j e b h1 h2 => ?_⟩
  · by_cases z : b = a
    · subst z; exact ⟨_, upd_same⟩
    · obtain ⟨u, hu⟩ := w.trk b hb
      exact ⟨u, by rw [upd_ne z]; exact hu⟩
  · obtain ⟨⟨u, hu, hu2⟩, h2⟩ := w.hid b hb
    exact ⟨⟨u, by rw [upd_ne (fun z => h2 (by rw [z]; exact List.mem_of_getElem? hc))]; exact hu, hu2⟩, h2⟩
  · by_cases hj : i = j
    · subst hj
      rw [List.getElem?_set_self hl] at h1
      have e1 : d' = e := Option.some.inj (Option.some.inj h1)
      have e2 : a = b := Option.some.inj (hc.symm.trans h2)
      subst e1 e2
      exact c
    · rw [List.getElem?_set_ne hj] at h1
      refine (w.cell j e b h1 h2).mono (exx_set hc hm hd hd') (fun _ => upd_ne fun z => ?_)
      subst z
      have li : i < ρ.cs.length := by rw [w.len]; exact hl
      have lj : j < ρ.cs.length := (List.getElem?_eq_some_iff.mp h2).1
      have e1 : ρ.cs[i] = b := (List.getElem?_eq_some_iff.mp hc).2
      have e2 : ρ.cs[j] = b := (List.getElem?_eq_some_iff.mp h2).2
      exact hj ((List.getElem_inj w.nd).mp (e1.trans e2.symm))
/-- a mutable list's content -/
def celL (μ : Mem) : D → Option (Nat × List D)
  | .cel i => match μ[i]? with
    | some (some (.lst ds)) => some (i, ds)
    | _ => none
  | _ => none
theorem celL_ok {v : V} {d : D} {i : Nat} {ds : List D} (w : Wd K mg H ρ μ) (r : Rm K mg H ρ μ v d) (h : celL μ d = some (i, ds)) :
    ∃ a vs, v = .ref a ∧ d = .cel i ∧ ρ.cs[i]? = some a ∧ μ[i]? = some (some (.lst ds)) ∧ H a = some (.lst vs) ∧ RLm K mg H ρ μ vs ds := by
  cases r with
  | cel hc =>
    rename_i a j
    have h1 : (match μ[j]? with
      | some (some (.lst ds)) => some (j, ds)
      | _ => none) = some (i, ds) := h
    cases hm : μ[j]? with
    | none => rw [hm] at h1; exact nomatch h1
    | some o =>
      rw [hm] at h1
      cases o with
      | none => exact nomatch h1
      | some d =>
        cases d with
        | lst es =>
          have e := Option.some.inj h1
          injection e with e1 e2
          subst e1 e2
          obtain ⟨vs, h2, h3⟩ := w.cell j _ a hm hc
          exact ⟨a, vs, rfl, rfl, hc, hm, h2, h3⟩
        | _ => exact nomatch h1
  | _ => exact nomatch (show (none : Option (Nat × List D)) = some _ from h)
/-- the mutable list at a changes -/
theorem set_lst {i : Nat} {a : Addr} {ds ds' : List D} {vs' : List V} {Q : VK} {v : V} {d : D} (w : Wd K mg H ρ μ) (hc : ρ.cs[i]? = some a) (hm : μ[i]? = some (some (.lst ds))) (r : RLm K mg H ρ μ vs' ds') (rv : Rm K mg H ρ μ v d)
    (p : Post K mg (.ok d (μ.set i (some (.lst ds')))) H ρ μ Q E) : Q v (upd H a (.lst vs')) :=
  p v _ ρ (exm_set w hc hm) (wd_set w hc hm ⟨vs', upd_same, r.mono (exx_set hc hm)⟩) (rv.mono (exx_set hc hm))
theorem set_lstU {i : Nat} {a : Addr} {ds ds' : List D} {vs' : List V} (w : Wd K mg H ρ μ) (hc : ρ.cs[i]? = some a) (hm : μ[i]? = some (some (.lst ds))) (r : RLm K mg H ρ μ vs' ds') :
    Exm H ρ μ (upd H a (.lst vs')) ρ (μ.set i (some (.lst ds'))) ∧ Wd K mg (upd H a (.lst vs')) ρ (μ.set i (some (.lst ds'))) :=
  ⟨exm_set w hc hm, wd_set w hc hm ⟨vs', upd_same, r.mono (exx_set hc hm)⟩⟩

def tyOf (T : String) (μ : Mem) (d : D) : Bool := match d with
  | .str _ => decide (T = "str")
  | _ => decide (T = "list") && (lstOf μ d).isSome
theorem tyOf_ok {T : String} {v : V} {d : D} (w : Wd K mg H ρ μ) (r : Rm K mg H ρ μ v d) (h : tyOf T μ d = true) : tyV K T v H := by
  cases r with
  | str x =>
    have h0 : decide (T = "str") = true := h
    have e : T = "str" := of_decide_eq_true h0
    exact e
  | lst f rl =>
    obtain ⟨h1, _⟩ := Bool.and_eq_true_iff.mp h
    exact .inl ⟨of_decide_eq_true h1, _, f.sq⟩
  | cel hc =>
    rename_i a i
    obtain ⟨h1, h2⟩ := Bool.and_eq_true_iff.mp h
    obtain ⟨ds, h3⟩ := Option.isSome_iff_exists.mp h2
    obtain ⟨b, vs, e1, e2, _⟩ := lstOf_ok w (.cel hc) h3
    cases e1
    exact .inl ⟨of_decide_eq_true h1, vs, .inl e2⟩
  | _ => exact nomatch (Bool.and_eq_true_iff.mp h).2
def MtMm (K : PySem.W.Frag) (mg : Str → Option Value) (r : V → List V → Hp → VK → Prop) (g : D → List D → M D) : Prop :=
  ∀ (H : Hp) (ρ : Lc) (μ : Mem) (x : V) (vs : List V) (d : D) (ds : List D) (Q : VK) (E : XK), Wd K mg H ρ μ → Rm K mg H ρ μ x d → RLm K mg H ρ μ vs ds → Post K mg (g d ds μ) H ρ μ Q E → r x vs H Q
def mMeth (T : String) (g : D → List D → M D) (o : ME) (a : ML) : ME := fun env μ => (o env μ).bind fun x μ1 => if tyOf T μ1 x then (a env μ1).bind fun ds => g x ds else .no
section
variable {X : Cx} {W : WX} {o e : Expr} {es : List Expr} {mo : ME} {ml : ML} {name : Str} {apos cpos : Pos} {T id : String} {r : V → List V → Hp → VK → Prop} {g : D → List D → M D}
theorem se_meth (pa : PlainAttrs T) (slot : Slot T name id) (hty : typeOf (.builtin id) = pure (.type "method_descriptor")) (hm : MtR X id r) (hg : MtMm X.K X.mg r g) (ho : SE X W o mo) (ha : SA X W (e :: es) ml)
    (h1 : attributeBase o name X.env (eval o X.env) = eval o X.env := by rfl)
    (h2 : (((backTo cpos (starEach (e :: es) X.env)).all fun x => !x.1) && ((backToKw cpos (keywordEach [] X.env)).all fun x => x.1.isSome) && decide (((e :: es).length + ([] : List Keyword).length + if ([] : List Keyword).isEmpty = true then 0 else 1) < 30)) = true := by rfl)
    (h3 : (apos.endLine == cpos.line) = true := by rfl) (h4 : starEach (e :: es) X.env = (false, eval e X.env) :: starEach es X.env := by rfl) (h5 : ((backTo cpos (starEach es X.env)).any fun x => x.1) = false := by rfl) :
    SE X W (.Call (.Attribute o name apos) (e :: es) [] cpos) (mMeth T g mo ml) := by
  refine PE.imp (pe_bm pa slot hty hm ho ha h1 h2 h3 h4 h5) fun σ H Q ⟨ρ, μ, env, w, re, p⟩ => ?_
  refine ⟨ρ, μ, env, w, re, Post.imp (post_bind p) (fun v H1 ⟨d, ρ1, μ1, e1, w1, r1, p1⟩ => ?_) fun _ _ _ z => z⟩
  by_cases ht : tyOf T μ1 d = true
  · rw [if_pos ht] at p1
    refine ⟨tyOf_ok w1 r1 ht, ρ1, μ1, env, w1, re.mono e1, PostL.imp (postL_bind p1) (fun vs H2 ⟨ds, ρ2, μ2, e2, w2, r2, p2⟩ => ?_) fun _ _ _ z => z⟩
    exact hg H2 ρ2 μ2 v vs d ds Q _ w2 (r1.mono e2.x) r2 p2
  · rw [if_neg ht] at p1
    exact False.elim p1
theorem se_meth0 (pa : PlainAttrs T) (slot : Slot T name id) (hty : typeOf (.builtin id) = pure (.type "method_descriptor")) (hm : MtR X id r) (hg : MtMm X.K X.mg r g) (ho : SE X W o mo)
    (hbase : attributeBase o name X.env (eval o X.env) = eval o X.env := by rfl) (hline : (apos.endLine == cpos.line) = true := by rfl) :
    SE X W (.Call (.Attribute o name apos) [] [] cpos) (mMeth T g mo mNil) := by
  refine PE.imp (pe_bm0 pa slot hty hm ho hbase hline) fun σ H Q ⟨ρ, μ, env, w, re, p⟩ => ?_
  refine ⟨ρ, μ, env, w, re, Post.imp (post_bind p) (fun v H1 ⟨d, ρ1, μ1, e1, w1, r1, p1⟩ => ?_) fun _ _ _ z => z⟩
  by_cases ht : tyOf T μ1 d = true
  · rw [if_pos ht] at p1
    exact ⟨tyOf_ok w1 r1 ht, hg H1 ρ1 μ1 v [] d [] Q _ w1 r1 .nil p1⟩
  · rw [if_neg ht] at p1
    exact False.elim p1
end
def gAppend : D → List D → M D := fun d ds μ => match celL μ d, ds with
  | some (i, xs), [y] => if xs.length < lim then .ok .non (μ.set i (some (.lst (xs ++ [y])))) else .no
  | _, _ => .no
theorem m_append : MtMm K mg rAppend gAppend := by
  intro H ρ μ x vs d ds Q E w rx rv p
  unfold gAppend at p
  split at p
  · rename_i i xs y h
    split at p
    · rename_i hl
      obtain ⟨a, ws, e1, e2, hc, hm, hH, rl⟩ := celL_ok w rx h
      cases rv with
      | cons r t =>
        cases t
        exact ⟨a, ws, _, e1, rfl, hH, by rw [rl.length]; exact lim_lt (Nat.le_of_lt hl), set_lst w hc hm (rl.append (.one r)) .non p⟩
    · exact False.elim p
  · exact False.elim p
def gPop : D → List D → M D := fun d ds μ => match celL μ d, ds with
  | some (i, xs), [] => (match xs[xs.length - 1]? with
    | some y => .ok y (μ.set i (some (.lst xs.dropLast)))
    | none => .no)
  | _, _ => .no
theorem RL.dropLast {Lv : Addr → Prop} {cs : List Addr} {vs : List V} {ds : List D} (r : RL K mg H Lv cs vs ds) : RL K mg H Lv cs vs.dropLast ds.dropLast := by
  rw [List.dropLast_eq_take, List.dropLast_eq_take, r.length]
  exact r.take _
theorem m_pop : MtMm K mg rPop gPop := by
  intro H ρ μ x vs d ds Q E w rx rv p
  unfold gPop at p
  split at p
  · rename_i i xs h
    cases hy : xs[xs.length - 1]? with
    | none => rw [hy] at p; exact False.elim p
    | some y =>
      rw [hy] at p
      obtain ⟨a, ws, e1, e2, hc, hm, hH, rl⟩ := celL_ok w rx h
      cases rv
      obtain ⟨vy, h1, h2⟩ := rl.get hy
      exact ⟨a, ws, vy, e1, rfl, hH, by rw [rl.length]; exact h1, set_lst w hc hm rl.dropLast h2 p⟩
  · exact False.elim p
theorem RL.eraseIdx {Lv : Addr → Prop} {cs : List Addr} {vs : List V} {ds : List D} (r : RL K mg H Lv cs vs ds) (k : Nat) : RL K mg H Lv cs (vs.eraseIdx k) (ds.eraseIdx k) := by
  rw [List.eraseIdx_eq_take_drop_succ, List.eraseIdx_eq_take_drop_succ]
  exact (r.take k).append (r.drop (k + 1))
def gPopAt : D → List D → M D := fun d ds μ => match celL μ d, ds with
  | some (i, xs), [.int j] => if 0 ≤ j ∧ j < 2 ^ 62 then (match xs[j.toNat]? with
    | some y => .ok y (μ.set i (some (.lst (xs.eraseIdx j.toNat))))
    | none => .no) else .no
  | _, _ => .no
theorem m_popAt : MtMm K mg rPopAt gPopAt := by
  intro H ρ μ x vs d ds Q E w rx rv p
  unfold gPopAt at p
  split at p
  · rename_i i xs j h
    split at p
    · rename_i hj
      cases hy : xs[j.toNat]? with
      | none => rw [hy] at p; exact False.elim p
      | some y =>
        rw [hy] at p
        obtain ⟨a, ws, e1, e2, hc, hm, hH, rl⟩ := celL_ok w rx h
        cases rv with
        | cons r t =>
          cases t
          cases r
          obtain ⟨vy, h1, h2⟩ := rl.get hy
          have hl : j.toNat < ws.length := (List.getElem?_eq_some_iff.mp h1).1
          refine ⟨a, ws, j, j.toNat, vy, e1, rfl, hH, by omega, by omega, ?_, h1, set_lst w hc hm (rl.eraseIdx _) h2 p⟩
          unfold seqIndex?
          first
            | (rw [if_pos (by omega)]; rw [if_pos (by omega)])
            | simp [show ¬ j < 0 by omega, show j < ws.length by omega]
            | omega
    · exact False.elim p
  · exact False.elim p
def gClear : D → List D → M D := fun d ds μ => match celL μ d, ds with
  | some (i, xs), [] => .ok .non (μ.set i (some (.lst [])))
  | _, _ => .no
theorem m_clear : MtMm K mg rClear gClear := by
  intro H ρ μ x vs d ds Q E w rx rv p
  unfold gClear at p
  split at p
  · rename_i i xs h
    obtain ⟨a, ws, e1, e2, hc, hm, hH, rl⟩ := celL_ok w rx h
    cases rv
    exact ⟨a, ws, e1, rfl, hH, set_lst w hc hm .nil .non p⟩
  · exact False.elim p
def gInsert : D → List D → M D := fun d ds μ => match celL μ d, ds with
  | some (i, xs), [.int j, y] => if (xs.length < lim ∧ 0 ≤ j ∧ j < 2 ^ 62) then .ok .non (μ.set i (some (.lst (xs.take j.toNat ++ [y] ++ xs.drop j.toNat)))) else .no
  | _, _ => .no
theorem m_insert : MtMm K mg (fun x vs H Q => ∃ (l : Addr) (xs : List V) (i : Int) (y : V), x = .ref l ∧ vs = [.int i, y] ∧ H l = some (.lst xs) ∧ xs.length < sizeLine ∧ 0 ≤ i ∧ i < 2 ^ 63 ∧ Q .non (upd H l (.lst (xs.take i.toNat ++ [y] ++ xs.drop i.toNat)))) gInsert := by
  intro H ρ μ x vs d ds Q E w rx rv p
  unfold gInsert at p
  split at p
  · rename_i i xs j y h
    split at p
    · rename_i hj
      obtain ⟨a, ws, e1, e2, hc, hm, hH, rl⟩ := celL_ok w rx h
      cases rv with
      | cons r t =>
        cases t with
        | cons r2 t =>
          cases t
          cases r
          exact ⟨a, ws, j, _, e1, rfl, hH, by rw [rl.length]; exact lim_lt (Nat.le_of_lt hj.1), hj.2.1, by omega, set_lst w hc hm (((rl.take _).append (.one r2)).append (rl.drop _)) .non p⟩
    · exact False.elim p
  · exact False.elim p
/-- xs.remove(k), ints -/
def asInts : List D → Option (List Int)
  | [] => some []
  | .int i :: ds => (asInts ds).map (i :: ·)
  | _ => none
theorem asInts_eq : ∀ {ds : List D} {ns : List Int}, asInts ds = some ns → ds = ns.map D.int
  | [], ns, h => by have e := Option.some.inj h; subst e; rfl
  | .int i :: ds, ns, h => by
    have h1 : (asInts ds).map (i :: ·) = some ns := h
    cases h2 : asInts ds with
    | none => rw [h2] at h1; exact nomatch h1
    | some ms =>
      rw [h2] at h1
      have e := Option.some.inj h1
      subst e
      rw [asInts_eq h2]
      rfl
  | .non :: _, _, h => nomatch (show (none : Option (List Int)) = _ from h)
  | .bl _ :: _, _, h => nomatch (show (none : Option (List Int)) = _ from h)
  | .str _ :: _, _, h => nomatch (show (none : Option (List Int)) = _ from h)
  | .lst _ :: _, _, h => nomatch (show (none : Option (List Int)) = _ from h)
  | .tup _ :: _, _, h => nomatch (show (none : Option (List Int)) = _ from h)
  | .dct _ _ :: _, _, h => nomatch (show (none : Option (List Int)) = _ from h)
  | .ins _ _ :: _, _, h => nomatch (show (none : Option (List Int)) = _ from h)
  | .cel _ :: _, _, h => nomatch (show (none : Option (List Int)) = _ from h)
  | .ty _ :: _, _, h => nomatch (show (none : Option (List Int)) = _ from h)
theorem RL.ints {Lv : Addr → Prop} {cs : List Addr} : ∀ {vs : List V} {ns : List Int}, RL K mg H Lv cs vs (ns.map D.int) → vs = ns.map V.int
  | [], [], _ => rfl
  | [], _ :: _, h => nomatch h
  | _ :: _, [], h => nomatch h
  | v :: vs, n :: ns, .cons r t => by
    cases r
    rw [RL.ints t]
    rfl
theorem RL.ofInts {Lv : Addr → Prop} {cs : List Addr} : ∀ (ns : List Int), RL K mg H Lv cs (ns.map V.int) (ns.map D.int)
  | [] => .nil
  | n :: ns => .cons (.int n) (RL.ofInts ns)
def gRemove : D → List D → M D := fun d ds μ => match celL μ d, ds with
  | some (i, xs), [.int k] => (match asInts xs with
    | some ns => if k ∈ ns then .ok .non (μ.set i (some (.lst ((ns.erase k).map .int)))) else .no
    | none => .no)
  | _, _ => .no
theorem idxOf_first {ns : List Int} {k : Int} (h : k ∈ ns) : ∃ j, ns[j]? = some k ∧ (∀ m : Nat, m < j → ns[m]? ≠ some k) ∧ ns.eraseIdx j = ns.erase k := by
  induction ns with
  | nil => exact nomatch h
  | cons n ns ih =>
    by_cases e : n = k
    · subst e
      exact ⟨0, rfl, fun m hm => absurd hm (Nat.not_lt_zero _), by simp⟩
    · have h' : k ∈ ns := by
        rcases List.mem_cons.mp h with z | z
        · exact absurd z.symm e
        · exact z
      obtain ⟨j, h1, h2, h3⟩ := ih h'
      refine ⟨j + 1, by simpa using h1, fun m hm => ?_, ?_⟩
      · cases m with
        | zero => simp [e]
        | succ m => simpa using h2 m (by omega)
      · rw [List.eraseIdx_cons_succ, h3, List.erase_cons_tail (by simpa using e)]
theorem m_remove : MtMm K mg rRemI gRemove := by
  intro H ρ μ x vs d ds Q E w rx rv p
  unfold gRemove at p
  split at p
  · rename_i i xs k h
    cases hn : asInts xs with
    | none => rw [hn] at p; exact False.elim p
    | some ns =>
      rw [hn] at p
      dsimp only at p
      split at p
      · rename_i hk
        obtain ⟨a, ws, e1, e2, hc, hm, hH, rl⟩ := celL_ok w rx h
        have ex := asInts_eq hn
        subst ex
        have ew := rl.ints
        subst ew
        obtain ⟨j, h1, h2, h3⟩ := idxOf_first hk
        cases rv with
        | cons r t =>
          cases t
          cases r
          exact ⟨a, ns, k, j, e1, rfl, hH, h1, h2, set_lst w hc hm (by rw [h3]; exact RL.ofInts _) .non p⟩
      · exact False.elim p
  · exact False.elim p
end
end CL

namespace CL
open PySem L2 PySem.Spec PyProof.Rows
theorem PE.or {X : Cx} {e : Expr} {t t' : TE} (h : PE X e t) (h' : PE X e t') : PE X e (fun σ H Q => t σ H Q ∨ t' σ H Q) := ⟨fun pins s σ H Q I q => by
  rcases q with q | q
  · exact h.run pins s σ H Q I q
  · exact h'.run pins s σ H Q I q⟩
theorem PS.or {X : Cx} {e : Stmt} {t t' : TS} (h : PS X e t) (h' : PS X e t') : PS X e (fun D σ H => t D σ H ∨ t' D σ H) := ⟨fun pins s σ H D I q => by
  rcases q with q | q
  · exact h.run pins s σ H D I q
  · exact h'.run pins s σ H D I q⟩
section
variable {K : PySem.W.Frag} {mg : Str → Option Value} {H H1 : Hp} {ρ ρ1 : Lc} {μ μ1 : Mem} {E : XK}
/-- a key as the library has it: an int, a text -/
def toK : D → Option Key
  | .int i => some (.inl i)
  | .str x => some (.inr x)
  | _ => none
def toKs : List D → Option (List Key)
  | [] => some []
  | d :: ds => match toK d, toKs ds with
    | some k, some ks => some (k :: ks)
    | _, _ => none
theorem toK_eq : ∀ {d : D} {k : Key}, toK d = some k → d = kD k
  | .int i, k, h => by have e := Option.some.inj h; subst e; rfl
  | .str i, k, h => by have e := Option.some.inj h; subst e; rfl
  | .non, _, h => nomatch (show (none : Option Key) = _ from h)
  | .bl _, _, h => nomatch (show (none : Option Key) = _ from h)
  | .lst _, _, h => nomatch (show (none : Option Key) = _ from h)
  | .tup _, _, h => nomatch (show (none : Option Key) = _ from h)
  | .dct _ _, _, h => nomatch (show (none : Option Key) = _ from h)
  | .ins _ _, _, h => nomatch (show (none : Option Key) = _ from h)
  | .cel _, _, h => nomatch (show (none : Option Key) = _ from h)
  | .ty _, _, h => nomatch (show (none : Option Key) = _ from h)
theorem R.key {Lv : Addr → Prop} {cs : List Addr} {v : V} {k : Key} (r : R K mg H Lv cs v (kD k)) : v = kV k := by
  cases k with
  | inl i => cases r; rfl
  | inr x => cases r; rfl
theorem R.ofKey {Lv : Addr → Prop} {cs : List Addr} (k : Key) : R K mg H Lv cs (kV k) (kD k) := by
  cases k with
  | inl i => exact .int i
  | inr x => exact .str x
theorem toKs_eq : ∀ {ds : List D} {ks : List Key}, toKs ds = some ks → ds = ks.map kD
  | [], ks, h => by have e := Option.some.inj h; subst e; rfl
  | d :: ds, ks, h => by
    unfold toKs at h
    cases h1 : toK d with
    | none => rw [h1] at h; exact nomatch h
    | some k =>
      cases h2 : toKs ds with
      | none => rw [h1, h2] at h; exact nomatch h
      | some ls =>
        rw [h1, h2] at h
        have e := Option.some.inj h
        subst e
        rw [toK_eq h1, toKs_eq h2]
        rfl
theorem RL.keys {Lv : Addr → Prop} {cs : List Addr} : ∀ {vs : List V} {ks : List Key}, RL K mg H Lv cs vs (ks.map kD) → vs = ks.map kV
  | [], [], _ => rfl
  | [], _ :: _, h => nomatch h
  | _ :: _, [], h => nomatch h
  | v :: vs, k :: ks, .cons r t => by
    rw [r.key, RL.keys t]
    rfl
theorem kD_inj {a b : Key} (h : kD a = kD b) : a = b := by
  cases a with
  | inl i => cases b with
    | inl j => rw [D.int.inj h]
    | inr x => exact nomatch h
  | inr x => cases b with
    | inl j => exact nomatch h
    | inr y => rw [D.str.inj h]
theorem kDs_inj : ∀ {a b : List Key}, a.map kD = b.map kD → a = b
  | [], [], _ => rfl
  | [], _ :: _, h => nomatch h
  | _ :: _, [], h => nomatch h
  | x :: a, y :: b, h => by
    have h' : kD x :: a.map kD = kD y :: b.map kD := h
    injection h' with h1 h2
    rw [kD_inj h1, kDs_inj h2]
def dget (kds : List (D × D)) (k : D) : Option D := (kds.find? fun p => decide (p.1 = k)).map (·.2)
def dput (kds : List (D × D)) (k v : D) : List (D × D) := if (kds.any fun p => decide (p.1 = k)) = true then kds.map (fun p => if p.1 = k then (p.1, v) else p) else kds ++ [(k, v)]
section
variable {κ : Type} [DecidableEq κ] {f : κ → D} (hf : ∀ a b, f a = f b → a = b) {Lv : Addr → Prop} {cs : List Addr}
theorem dget_rel (hf : ∀ a b, f a = f b → a = b) : ∀ {kvs : List (κ × V)} {ds : List D}, RL K mg H Lv cs (kvs.map (·.2)) ds → ∀ (k : κ), (∀ v, valV kvs k = some v → ∃ d, dget ((kvs.map fun p => f p.1).zip ds) (f k) = some d ∧ R K mg H Lv cs v d) ∧ (valV kvs k = none → dget ((kvs.map fun p => f p.1).zip ds) (f k) = none)
  | [], _, _, k => ⟨(fun v h => nomatch h), fun _ => rfl⟩
  | p :: kvs, _, .cons (ds := ds) (d := d) r t, k => by
    have ih := dget_rel hf t k
    have hd : dget (((p :: kvs).map fun p => f p.1).zip (d :: ds)) (f k) = if f p.1 = f k then some d else dget ((kvs.map fun p => f p.1).zip ds) (f k) := by
      unfold dget
      rw [List.map_cons, List.zip_cons_cons, List.find?_cons]
      by_cases e : f p.1 = f k
      · simp [e]
      · simp [e]
    by_cases e : p.1 = k
    · rw [hd, if_pos (by rw [e])]
      refine ⟨fun v h => ?_, fun h => ?_⟩
      · rw [valV_pos e] at h
        have := Option.some.inj h
        subst this
        exact ⟨d, rfl, r⟩
      · rw [valV_pos e] at h
        exact nomatch h
    · rw [hd, if_neg fun z => e (hf _ _ z), valV_neg e]
      exact ih
theorem dput_rel (hf : ∀ a b, f a = f b → a = b) {v : V} {d : D} (rv : R K mg H Lv cs v d) {kvs : List (κ × V)} {ds : List D} (rl : RL K mg H Lv cs (kvs.map (·.2)) ds) (k : κ) :
    ∃ ds', RL K mg H Lv cs ((putK kvs k v).map (·.2)) ds' ∧ dput ((kvs.map fun p => f p.1).zip ds) (f k) d = ((putK kvs k v).map fun p => f p.1).zip ds' := by
  have any_eq : ∀ {kvs : List (κ × V)} {ds : List D}, RL K mg H Lv cs (kvs.map (·.2)) ds → (((kvs.map fun p => f p.1).zip ds).any fun p => decide (p.1 = f k)) = kvs.any fun p => decide (p.1 = k) := by
    intro kvs
    induction kvs with
    | nil => intro ds h; cases h; rfl
    | cons p kvs ih =>
      intro ds h
      cases h with
      | cons r t =>
        rw [List.map_cons, List.zip_cons_cons, List.any_cons, List.any_cons, ih t]
        have e : decide (f p.1 = f k) = decide (p.1 = k) := by
          by_cases e : p.1 = k
          · simp [e]
          · have : ¬ f p.1 = f k := fun z => e (hf _ _ z)
            simp [e, this]
        rw [e]
  have upd_eq : ∀ {kvs : List (κ × V)} {ds : List D}, RL K mg H Lv cs (kvs.map (·.2)) ds → ∃ ds', RL K mg H Lv cs ((kvs.map fun kv => if kv.1 = k then (kv.1, v) else kv).map (·.2)) ds' ∧
      ((kvs.map fun p => f p.1).zip ds).map (fun p => if p.1 = f k then (p.1, d) else p) = ((kvs.map fun kv => if kv.1 = k then (kv.1, v) else kv).map fun p => f p.1).zip ds' := by
    intro kvs
    induction kvs with
    | nil => intro ds h; cases h; exact ⟨[], .nil, rfl⟩
    | cons p kvs ih =>
      intro ds h
      cases h with
      | @cons _ d0 _ ds r t =>
        obtain ⟨ds', h1, h2⟩ := ih t
        by_cases e : p.1 = k
        · refine ⟨d :: ds', ?_, ?_⟩
          · rw [List.map_cons, if_pos e, List.map_cons]
            exact .cons rv h1
          · rw [List.map_cons, List.zip_cons_cons, List.map_cons, h2]
            have e2 : f p.1 = f k := by rw [e]
            simp [e]
        · refine ⟨d0 :: ds', ?_, ?_⟩
          · rw [List.map_cons, if_neg e, List.map_cons]
            exact .cons r h1
          · rw [List.map_cons, List.zip_cons_cons, List.map_cons, h2]
            have e2 : ¬ f p.1 = f k := fun z => e (hf _ _ z)
            simp [e, e2]
  unfold dput putK
  rw [any_eq rl]
  by_cases a : (kvs.any fun kv => decide (kv.1 = k)) = true
  · rw [if_pos a, if_pos a]
    exact upd_eq rl
  · rw [if_neg a, if_neg a]
    refine ⟨ds ++ [d], ?_, ?_⟩
    · rw [List.map_append]
      exact rl.append (.one rv)
    · have hl : (kvs.map fun p => f p.1).length = ds.length := by
        have := rl.length
        simpa using this
      rw [List.map_append, List.zip_append hl]
      rfl
end
/-- a key that a dict of this kind may be asked -/
def keyOk (t : Bool) (k : D) : Bool := match t, k with
  | true, .tup ds => (toKs ds).isSome && !ds.isEmpty
  | false, k => (toK k).isSome
  | _, _ => false
theorem dT_inj {a b : List Key} (h : D.tup (a.map kD) = D.tup (b.map kD)) : a = b := kDs_inj (D.tup.inj h)
/-- a value that reads as a dict -/
theorem dctOf_rd {x : V} {d : D} {t : Bool} {kds : List (D × D)} (w : Wd K mg H ρ μ) (rx : Rm K mg H ρ μ x d) (h : dctOf μ d = some (t, kds)) : ∃ a, x = .ref a ∧
    ((t = false ∧ ∃ kvs ds, Rd H a (.dK kvs) ∧ RLm K mg H ρ μ (kvs.map (·.2)) ds ∧ kds = (kvs.map fun p => kD p.1).zip ds) ∨ (t = true ∧ ∃ kvs ds, Rd H a (.dT kvs) ∧ RLm K mg H ρ μ (kvs.map (·.2)) ds ∧ kds = (kvs.map fun p => D.tup (p.1.map kD)).zip ds)) := by
  cases rx with
  | dK h1 n z r q =>
    have e := Option.some.inj h
    injection e with e1 e2
    subst e1 e2 z
    exact ⟨_, rfl, .inl ⟨rfl, _, _, h1, r, q⟩⟩
  | dT h1 n z r q =>
    have e := Option.some.inj h
    injection e with e1 e2
    subst e1 e2 z
    exact ⟨_, rfl, .inr ⟨rfl, _, _, h1, r, q⟩⟩
  | cel hc =>
    rename_i a i
    unfold dctOf at h
    dsimp only at h
    split at h
    · rename_i t' es hm
      have e := Option.some.inj h
      injection e with e1 e2
      subst e1 e2
      have c := w.cell i _ a hm hc
      cases t' with
      | false => obtain ⟨kvs, ds, h2, h3, h4⟩ := c; exact ⟨a, rfl, .inl ⟨rfl, kvs, ds, .inl h2, h3, h4⟩⟩
      | true => obtain ⟨kvs, ds, h2, h3, h4⟩ := c; exact ⟨a, rfl, .inr ⟨rfl, kvs, ds, .inl h2, h3, h4⟩⟩
    · rename_i t' es hm
      have e := Option.some.inj h
      injection e with e1 e2
      subst e1 e2
      obtain ⟨_, _, r⟩ := w.cell i _ a hm hc
      generalize hd : D.dct t' es = d at r
      cases r with
      | dK h1 n z r q =>
        cases hd
        subst z
        exact ⟨_, rfl, .inl ⟨rfl, _, _, h1, r, q⟩⟩
      | dT h1 n z r q =>
        cases hd
        subst z
        exact ⟨_, rfl, .inr ⟨rfl, _, _, h1, r, q⟩⟩
      | _ => exact nomatch hd
    · exact nomatch h
  | _ => exact nomatch (show (none : Option (Bool × List (D × D))) = _ from h)
/-- a tuple of keys as it lies -/
theorem key_tup {y : V} {ls : List D} (ry : Rm K mg H ρ μ y (.tup ls)) (hk : keyOk true (.tup ls) = true) : ∃ (b : Addr) (kk : List Key), y = .ref b ∧ H b = some (.tup (kk.map kV)) ∧ ls = kk.map kD := by
  obtain ⟨hk1, hk2⟩ := Bool.and_eq_true_iff.mp (show ((toKs ls).isSome && !ls.isEmpty) = true from hk)
  obtain ⟨kk, hkk⟩ := Option.isSome_iff_exists.mp hk1
  have ek := toKs_eq hkk
  subst ek
  cases ry with
  | tup f rl =>
    have ev := rl.keys
    rcases f with ⟨f, _⟩ | ⟨f, _⟩
    · subst ev
      exact ⟨_, kk, rfl, f, rfl⟩
    · exfalso
      rw [f] at ev
      cases kk with
      | nil => exact absurd hk2 (by simp)
      | cons _ _ => exact nomatch ev
/-- a[y], y in a: what is there -/
theorem dctOf_get {x y : V} {d k : D} {t : Bool} {kds : List (D × D)} (w : Wd K mg H ρ μ) (rx : Rm K mg H ρ μ x d) (ry : Rm K mg H ρ μ y k) (h : dctOf μ d = some (t, kds)) (hk : keyOk t k = true) :
    ∃ a o, x = .ref a ∧ DGet H a y o ∧ (∀ v, o = some v → ∃ e, dget kds k = some e ∧ Rm K mg H ρ μ v e) ∧ (o = none → dget kds k = none) := by
  obtain ⟨a, e, hR⟩ := dctOf_rd w rx h
  refine ⟨a, ?_⟩
  rcases hR with ⟨et, kvs, ds, h1, h2, h3⟩ | ⟨et, kvs, ds, h1, h2, h3⟩
  · subst et
    obtain ⟨kk, hkk⟩ := Option.isSome_iff_exists.mp (show (toK k).isSome = true by cases k <;> exact hk)
    have ek := toK_eq hkk
    subst ek
    have ey := ry.key
    subst ey
    have q := dget_rel (f := kD) (fun _ _ z => kD_inj z) h2 kk
    refine ⟨valV kvs kk, e, .inl ⟨kvs, kk, h1, rfl, rfl⟩, fun v hv => ?_, fun hv => ?_⟩
    · subst h3; exact q.1 v hv
    · subst h3; exact q.2 hv
  · subst et
    cases k with
    | tup ls =>
      obtain ⟨b, kk, ey, hb, el⟩ := key_tup ry hk
      subst el
      have q := dget_rel (f := fun ks : List Key => D.tup (ks.map kD)) (fun _ _ z => dT_inj z) h2 kk
      refine ⟨valV kvs kk, e, .inr ⟨kvs, kk, _, h1, ey, hb, rfl⟩, fun v hv => ?_, fun hv => ?_⟩
      · subst h3; exact q.1 v hv
      · subst h3; exact q.2 hv
    | _ => exact nomatch hk
end
end CL

namespace CL
open PySem L2 PySem.Spec PyProof.Rows
section
variable {K : PySem.W.Frag} {mg : Str → Option Value} {H H1 : Hp} {ρ ρ1 : Lc} {μ μ1 : Mem} {E : XK}
/-- xs[i] -/
def atD (xs : List D) (i : Int) : Option D := (ixN xs.length i).bind fun j => xs[j]?
def seqIdx : D → D → M D := fun x y μ => match y with
  | .int i => (match lstOf μ x with
    | some xs => (match atD xs i with
      | some d => .ok d μ
      | none => .no)
    | none => (match x with
      | .tup xs => (match atD xs i with
        | some d => .ok d μ
        | none => .no)
      | .str z => if z.length ≤ lim then (match atI z.cps.toList i with
        | some c => .ok (.str ⟨#[c]⟩) μ
        | none => .no) else .no
      | _ => .no))
  | _ => .no
def dIdx : D → D → M D := fun x y μ => match dctOf μ x with
  | some (t, kds) => if keyOk t y then (match dget kds y with
    | some d => .ok d μ
    | none => .no) else .no
  | none => seqIdx x y μ
theorem RL.atI {Lv : Addr → Prop} {cs : List Addr} {vs : List V} {ds : List D} {i : Int} {d : D} (r : RL K mg H Lv cs vs ds) (h : atD ds i = some d) : ∃ v, atI vs i = some v ∧ R K mg H Lv cs v d := by
  unfold atD at h
  unfold L2.atI
  rw [r.length]
  cases e : ixN ds.length i with
  | none => rw [e] at h; exact nomatch h
  | some j =>
    rw [e] at h
    exact r.get h
theorem seqIdx_ok : OpM K mg (rIx K) seqIdx := by
  intro H ρ μ x y a b Q E w rx ry p
  unfold seqIdx at p
  cases ry with
  | int i =>
    dsimp only at p
    cases hx : lstOf μ a with
    | some xs =>
      rw [hx] at p
      dsimp only at p
      cases hd : atD xs i with
      | none => rw [hd] at p; exact False.elim p
      | some d =>
        rw [hd] at p
        obtain ⟨l, vs, e1, h1, r1⟩ := lstOf_ok w rx hx
        obtain ⟨v, h2, r2⟩ := r1.atI hd
        exact .inl ⟨l, vs, i, v, e1, rfl, .inl h1, h2, Post.ok w p r2⟩
    | none =>
      rw [hx] at p
      dsimp only at p
      cases rx with
      | tup f rl =>
        dsimp only at p
        rename_i a vs ds
        cases hd : atD ds i with
        | none => rw [hd] at p; exact False.elim p
        | some d =>
          rw [hd] at p
          obtain ⟨v, h2, r2⟩ := rl.atI hd
          exact .inr (.inl ⟨_, _, i, v, rfl, rfl, f.sq, h2, Post.ok w p r2⟩)
      | str z =>
        dsimp only at p
        split at p
        · rename_i hl
          cases hd : atI z.cps.toList i with
          | none => rw [hd] at p; exact False.elim p
          | some c =>
            rw [hd] at p
            exact .inr (.inr ⟨z, i, c, rfl, rfl, lim_line hl, hd, Post.ok w p (.str _)⟩)
        · exact False.elim p
      | _ => exact False.elim p
  | _ => exact False.elim p
section
variable {X : Cx} {W : WX} {a b e : Expr} {es : List Expr} {pos : Pos} {ma mb : ME} {ml : ML} {k : Nat}
theorem se_idx (hr : RmG k X.A) (ha : SE X W a ma) (hb : SE X W b mb) (hs : PlainIx b := by exact fun _ _ => rfl) (hs2 : NoSl b := by exact fun _ _ => rfl) : SE X W (.Subscript a b pos) (mBin dIdx ma mb) := by
  refine PE.imp (PE.or (pe_ix ix_seq ha hb hs) (pe_dget (hu_of hr.toRoom) ha hb hs2)) fun σ H Q ⟨ρ, μ, env, w, re, p⟩ => ?_
  -- which kind it is
  have key : (∀ d μ1 y μ2, ma env μ = .ok d μ1 → mb env μ1 = .ok y μ2 → dctOf μ2 d = none) ∨ (∃ d μ1 y μ2 z, ma env μ = .ok d μ1 ∧ mb env μ1 = .ok y μ2 ∧ dctOf μ2 d = some z) := by
    cases h1 : ma env μ with
    | ok d μ1 =>
      cases h2 : mb env μ1 with
      | ok y μ2 =>
        cases h3 : dctOf μ2 d with
        | none =>
          refine .inl fun d' m1 y' m2 e1 e2 => ?_
          injection e1 with z1 z2
          subst z1 z2
          rw [h2] at e2
          injection e2 with z3 z4
          subst z4
          exact h3
        | some z => exact .inr ⟨d, μ1, y, μ2, z, rfl, h2, h3⟩
      | ex c x m =>
        refine .inl fun d' m1 y' m2 e1 e2 => ?_
        injection e1 with z1 z2
        subst z1 z2
        rw [h2] at e2
        exact nomatch e2
      | no =>
        refine .inl fun d' m1 y' m2 e1 e2 => ?_
        injection e1 with z1 z2
        subst z1 z2
        rw [h2] at e2
        exact nomatch e2
    | ex c x m => exact .inl fun d' m1 y' m2 e1 e2 => (nomatch e1)
    | no => exact .inl fun d' m1 y' m2 e1 e2 => (nomatch e1)
  rcases key with key | ⟨d0, m1, y0, m2, ⟨t, kds⟩, k1, k2, k3⟩
  · refine .inl ⟨ρ, μ, env, w, re, ?_⟩
    have p1 := post_bind (k := fun x μ1 => (mb env μ1).bind fun y => dIdx x y) (r := ma env μ) p
    cases h1 : ma env μ with
    | ok d μ1 =>
      rw [h1] at p1
      intro v H1 ρ1 e1 w1 r1
      obtain ⟨d', ρ2, μ2, e2, w2, r2, p2⟩ := p1 v H1 ρ1 e1 w1 r1
      -- the same data
      have pp : Post X.K X.mg ((mb env μ1).bind fun y => dIdx d y) H1 ρ1 μ1 Q (fun c od H' => W c od σ H') := by
        have := p
        unfold mBin at this
        rw [h1] at this
        exact Post.base e1 this
      have p3 := post_bind pp
      refine ⟨ρ1, μ1, env, w1, re.mono e1, ?_⟩
      cases h2 : mb env μ1 with
      | ok y μ3 =>
        rw [h2] at pp
        intro v2 H2 ρ3 e3 w3 r3
        have p4 : Post X.K X.mg (dIdx d y μ3) H2 ρ3 μ3 Q _ := Post.base e3 pp
        have hn := key d μ1 y μ3 h1 h2
        unfold dIdx at p4
        rw [hn] at p4
        exact seqIdx_ok H2 ρ3 μ3 v v2 d y Q _ w3 (r1.mono e3.x) r3 p4
      | ex c x m => rw [h2] at pp; exact pp
      | no => rw [h2] at pp; exact pp
    | ex c x m => rw [h1] at p1; exact p1
    | no => rw [h1] at p1; exact p1
  · refine .inr ⟨ρ, μ, env, w, re, ?_⟩
    rw [k1]
    intro v H1 ρ1 e1 w1 r1
    refine ⟨ρ1, m1, env, w1, re.mono e1, ?_⟩
    rw [k2]
    intro v2 H2 ρ3 e3 w3 r3
    have pp : Post X.K X.mg (dIdx d0 y0 m2) H2 ρ3 m2 Q (fun c od H' => W c od σ H') := by
      have := p
      unfold mBin at this
      rw [k1] at this
      have this := Post.base e1 this
      have this : Post X.K X.mg ((mb env m1).bind fun y => dIdx d0 y) H1 ρ1 m1 Q _ := this
      rw [k2] at this
      exact Post.base e3 this
    unfold dIdx at pp
    rw [k3] at pp
    dsimp only at pp
    split at pp
    · rename_i hk
      obtain ⟨a', o, ea, g, g1, g2⟩ := dctOf_get w3 (r1.mono e3.x) r3 k3 hk
      cases o with
      | none => rw [g2 rfl] at pp; exact False.elim pp
      | some vv =>
        obtain ⟨dd, h1, h2⟩ := g1 vv rfl
        rw [h1] at pp
        exact ⟨a', vv, ea, g, Post.ok w3 pp h2⟩
    · exact False.elim pp
abbrev MO := CL.Env → M (Option Int)
def oNone : MO := fun _ μ => .ok none μ
def asPart : D → M (Option Int)
  | .int i, μ => .ok (some i) μ
  | _, _ => .no
def oSome (a : ME) : MO := fun env μ => (a env μ).bind asPart
def PostO (K : PySem.W.Frag) (mg : Str → Option Value) (r : Rs (Option Int)) (H : Hp) (ρ : Lc) (μ : Mem) (Q : Option Int → Hp → Prop) (E : XK) : Prop :=
  match r with
  | .ok b μ' => ∀ H' ρ', Exm H ρ μ H' ρ' μ' → Wd K mg H' ρ' μ' → Q b H'
  | .ex c x μ' => ∀ cls od H' ρ', Exm H ρ μ H' ρ' μ' → Wd K mg H' ρ' μ' → ExAt K mg H' ρ' μ' c x cls od → E cls od H'
  | .no => False
def tMO (K : PySem.W.Frag) (mg : Str → Option Value) (W : WX) (m : MO) : TO := fun σ H Q => ∃ ρ μ env, Wd K mg H ρ μ ∧ REnv K mg H ρ μ σ env ∧ PostO K mg (m env μ) H ρ μ Q (fun c od H' => W c od σ H')
abbrev SO (X : Cx) (W : WX) (e : Option Expr) (m : MO) : Prop := PO X e (tMO X.K X.mg W m)
theorem PO.imp {X : Cx} {e : Option Expr} {t t' : TO} (h : PO X e t) (i : ∀ σ H Q, t' σ H Q → t σ H Q) : PO X e t' := ⟨fun pins s σ H Q I q => h.run pins s σ H Q I (i σ H Q q)⟩
theorem so_none : SO X W none oNone := PO.imp po_none fun σ H Q ⟨ρ, μ, env, w, re, p⟩ => p H ρ Exm.refl w
theorem PostO.base {r : Rs (Option Int)} {Q : Option Int → Hp → Prop} (e : Exm H ρ μ H1 ρ1 μ1) (p : PostO K mg r H ρ μ Q E) : PostO K mg r H1 ρ1 μ1 Q E := by
  cases r with
  | ok d μ' => exact fun H' ρ' e' => p H' ρ' (e.trans e')
  | ex c x μ' => exact fun cls od H' ρ' e' => p cls od H' ρ' (e.trans e')
  | no => exact p
theorem so_some (h : SE X W e ma) : SO X W (some e) (oSome ma) := PO.imp (po_some h) fun σ H Q ⟨ρ, μ, env, w, re, p⟩ => by
  refine ⟨ρ, μ, env, w, re, ?_⟩
  unfold oSome at p
  cases h1 : ma env μ with
  | ok d m =>
    rw [h1] at p
    intro v H1 ρ1 e1 w1 r1
    have p1 : PostO X.K X.mg (asPart d m) H1 ρ1 m Q _ := PostO.base e1 p
    cases r1 with
    | int i => exact ⟨i, rfl, p1 H1 ρ1 Exm.refl w1⟩
    | _ => exact False.elim p1
  | ex c x m => rw [h1] at p; exact p
  | no => rw [h1] at p; exact p
def cutD (xs : List D) (lo hi : Option Int) : List D := (xs.drop (HT.sIx xs.length 0 lo)).take (HT.sIx xs.length xs.length hi - HT.sIx xs.length 0 lo)
/-- x[lo:hi] (k: what becomes of a new list) -/
def dSl (k : List D → M D) (x : D) (lo hi : Option Int) : M D := fun μ => match lstOf μ x with
  | some xs => k (cutD xs lo hi) μ
  | none => (match x with
    | .tup xs => .ok (.tup (cutD xs lo hi)) μ
    | .str z => if z.length ≤ lim then .ok (.str (cutS z lo hi)) μ else .no
    | _ => .no)
def mSl (k : List D → M D) (a : ME) (lo hi : MO) : ME := fun env μ => (a env μ).bind fun x μ1 => (lo env μ1).bind fun l μ2 => (hi env μ2).bind fun h => dSl k x l h
theorem RL.cut {Lv : Addr → Prop} {cs : List Addr} {vs : List V} {ds : List D} (r : RL K mg H Lv cs vs ds) (lo hi : Option Int) : RL K mg H Lv cs (cutV vs lo hi) (cutD ds lo hi) := by
  unfold cutV cutD
  rw [r.length]
  exact (r.drop _).take _
def rSlAll (K : PySem.W.Frag) : V → Option Int → Option Int → Hp → VK → Prop := fun x lo hi H Q => rSlL K x lo hi H Q ∨ rSlA K x lo hi H Q ∨ rSlS x lo hi H Q
theorem sl_all : SlR X (rSlAll X.K) := SlR.or sl_list (SlR.or sl_tupA sl_str)
theorem postO_st {σ : L2.St} {env : CL.Env} {r : Rs (Option Int)} {kk : Option Int → M D} {Q : VK} (re : REnv K mg H ρ μ σ env) (p : Post K mg (r.bind kk) H ρ μ Q E) :
    PostO K mg r H ρ μ (fun o H1 => ∃ ρ1 μ1, Exm H ρ μ H1 ρ1 μ1 ∧ Wd K mg H1 ρ1 μ1 ∧ Post K mg (kk o μ1) H1 ρ1 μ1 Q E) E := by
  cases r with
  | ok d μ' => exact fun H' ρ' e w => ⟨ρ', μ', e, w, Post.base e p⟩
  | ex c x μ' => exact p
  | no => exact p
theorem PostO.imp {r : Rs (Option Int)} {Q Q' : Option Int → Hp → Prop} {E' : XK} (p : PostO K mg r H ρ μ Q E) (h : ∀ v H', Q v H' → Q' v H') (hE : ∀ c o H', E c o H' → E' c o H') : PostO K mg r H ρ μ Q' E' := by
  cases r with
  | ok d μ' => exact fun H' ρ' e w => h _ _ (p H' ρ' e w)
  | ex c x μ' => exact fun cls od H' ρ' e w r => hE _ _ _ (p cls od H' ρ' e w r)
  | no => exact p
theorem se_slice {lo hi : Option Expr} {p2 : Pos} {k : List D → M D} {ol oh : MO} (hk : NewK k) (he : SE X W e ma) (hl : SO X W lo ol) (hh : SO X W hi oh) : SE X W (.Subscript e (.Slice lo hi none p2) pos) (mSl k ma ol oh) := by
  refine PE.imp (pe_slice sl_all he hl hh) fun σ H Q ⟨ρ, μ, env, w, re, p⟩ => ?_
  refine ⟨ρ, μ, env, w, re, Post.imp (post_bind p) (fun v H1 ⟨d, ρ1, μ1, e1, w1, r1, p1⟩ => ?_) fun _ _ _ z => z⟩
  refine ⟨ρ1, μ1, env, w1, re.mono e1, PostO.imp (postO_st (re.mono e1) p1) (fun l H2 ⟨ρ2, μ2, e2, w2, p2⟩ => ?_) fun _ _ _ z => z⟩
  refine ⟨ρ2, μ2, env, w2, (re.mono e1).mono e2, PostO.imp (postO_st ((re.mono e1).mono e2) p2) (fun h H3 ⟨ρ3, μ3, e3, w3, p3⟩ => ?_) fun _ _ _ z => z⟩
  have r3 := (r1.mono e2.x).mono e3.x
  unfold dSl at p3
  cases hx : lstOf μ3 d with
  | some xs =>
    rw [hx] at p3
    obtain ⟨a, vs, ea, h1, r4⟩ := lstOf_ok w3 r3 hx
    exact .inl ⟨a, vs, ea, .inl h1, hk _ _ _ _ _ _ _ _ _ w3 (r4.cut l h) p3⟩
  | none =>
    rw [hx] at p3
    dsimp only at p3
    cases r3 with
    | @tup a0 vs0 ds0 f rl =>
      dsimp only at p3
      refine .inr (.inl ⟨_, _, rfl, f.sq, fun hz => ?_, fun _ => Post.newT w3 (rl.cut l h) p3⟩)
      have hz2 := hz
      rw [rl.length] at hz2
      have e4 : cutD ds0 l h = ds0 := by
        unfold cutD
        rw [hz2.1, hz2.2]
        simp
      rw [e4] at p3
      exact Post.ok w3 p3 (.tup f rl)
    | str z =>
      dsimp only at p3
      split at p3
      · rename_i hl
        exact .inr (.inr ⟨z, rfl, lim_line hl, Post.ok w3 p3 (.str _)⟩)
      · exact False.elim p3
    | _ => exact False.elim p3
def dInD (neg : Bool) : D → D → M D := fun a b μ => match dctOf μ b with
  | some (t, kds) => if keyOk t a then .ok (.bl (if neg then !(dget kds a).isSome else (dget kds a).isSome)) μ else .no
  | none => .no
theorem se_inD {k : Nat} (hr : RmG k X.A) (ha : SE X W a ma) (hb : SE X W b mb) (hm : behindInMarks .In b = false := by rfl) : SE X W (.Compare a [.In] [b] pos) (mBin (dInD false) ma mb) := by
  refine PE.imp (pe_cmp (pc_din (hu_of hr.toRoom) ha hb) hm) fun σ H Q ⟨ρ, μ, env, w, re, p⟩ => ?_
  refine ⟨ρ, μ, env, w, re, Post.imp (post_bind p) (fun v H1 ⟨d, ρ1, μ1, e1, w1, r1, p1⟩ => ?_) fun _ _ _ z => z⟩
  refine ⟨ρ1, μ1, env, w1, re.mono e1, Post.imp (post_bind p1) (fun v2 H2 ⟨d2, ρ2, μ2, e2, w2, r2, p2⟩ => ?_) fun _ _ _ z => z⟩
  unfold dInD at p2
  cases hx : dctOf μ2 d2 with
  | none => rw [hx] at p2; exact False.elim p2
  | some z =>
    obtain ⟨t, kds⟩ := z
    rw [hx] at p2
    dsimp only at p2
    split at p2
    · rename_i hk
      obtain ⟨a', o, ea, g, g1, g2⟩ := dctOf_get w2 r2 (r1.mono e2.x) hx hk
      have eo : o.isSome = (dget kds d).isSome := by
        cases o with
        | none => rw [g2 rfl]; rfl
        | some vv =>
          obtain ⟨dd, h1, _⟩ := g1 vv rfl
          rw [h1]
          rfl
      refine ⟨a', o, ea, g, ?_⟩
      rw [eo]
      exact Post.ok w2 p2 (.bl _)
    · exact False.elim p2
theorem se_notinD {k : Nat} (hr : RmG k X.A) (ha : SE X W a ma) (hb : SE X W b mb) (hm : behindInMarks .NotIn b = false := by rfl) : SE X W (.Compare a [.NotIn] [b] pos) (mBin (dInD true) ma mb) := by
  refine PE.imp (pe_cmp (pc_dnotin (hu_of hr.toRoom) ha hb) hm) fun σ H Q ⟨ρ, μ, env, w, re, p⟩ => ?_
  refine ⟨ρ, μ, env, w, re, Post.imp (post_bind p) (fun v H1 ⟨d, ρ1, μ1, e1, w1, r1, p1⟩ => ?_) fun _ _ _ z => z⟩
  refine ⟨ρ1, μ1, env, w1, re.mono e1, Post.imp (post_bind p1) (fun v2 H2 ⟨d2, ρ2, μ2, e2, w2, r2, p2⟩ => ?_) fun _ _ _ z => z⟩
  unfold dInD at p2
  cases hx : dctOf μ2 d2 with
  | none => rw [hx] at p2; exact False.elim p2
  | some z =>
    obtain ⟨t, kds⟩ := z
    rw [hx] at p2
    dsimp only at p2
    split at p2
    · rename_i hk
      obtain ⟨a', o, ea, g, g1, g2⟩ := dctOf_get w2 r2 (r1.mono e2.x) hx hk
      have eo : o.isSome = (dget kds d).isSome := by
        cases o with
        | none => rw [g2 rfl]; rfl
        | some vv =>
          obtain ⟨dd, h1, _⟩ := g1 vv rfl
          rw [h1]
          rfl
      refine ⟨a', o, ea, g, ?_⟩
      rw [eo]
      exact Post.ok w2 p2 (.bl _)
    · exact False.elim p2
def dLen : List D → M D := fun ds μ => match ds with
  | [x] => (match lstOf μ x with
    | some xs => .ok (.int (xs.length : Nat)) μ
    | none => (match dctOf μ x with
      | some (t, kds) => .ok (.int (kds.length : Nat)) μ
      | none => (match x with
        | .tup xs => .ok (.int (xs.length : Nat)) μ
        | .str z => if z.length ≤ lim then .ok (.int (z.length : Nat)) μ else .no
        | _ => .no)))
  | _ => .no
def rLenK2 : List V → Hp → VK → Prop := fun xs H Q => ∃ a kvs, xs = [V.ref a] ∧ Rd H a (.dK kvs) ∧ Q (.int kvs.length) H
def rLenT2 : List V → Hp → VK → Prop := fun xs H Q => ∃ (p : Addr) (kvs : List (List Key × V)), xs = [.ref p] ∧ Rd H p (.dT kvs) ∧ Q (.int ((kvs.length : Nat) : Int)) H
theorem call_lenK2 : CallR X (.builtin "len") rLenK2 := by
  intro pins s σ H xs us Q I r h
  obtain ⟨a, kvs, rfl, ha, q⟩ := h
  obtain ⟨u, rfl, ru⟩ := vals1 r
  cases ru
  exact d_len I ha fun t s' I' => ⟨.int kvs.length, H, I', ⟨t, rfl⟩, q⟩
theorem call_lenT2 : CallR X (.builtin "len") rLenT2 := by
  intro pins s σ H xs us Q I r h
  obtain ⟨p, kvs, rfl, hp, q⟩ := h
  obtain ⟨u, rfl, rx⟩ := vals1 r
  obtain rfl : u = .ref p := rx
  obtain ⟨z, hd, ys, rel, dd⟩ := dt_rd I.hok hp
  have hl : kvs.length = ys.length := Paired.length rel
  refine call_len_dictH hd dd (by rw [← hl]; rw [sizeLine_eq] at z; omega) ?_
  rw [← hl]
  exact ⟨.int ((kvs.length : Nat) : Int), H, I.tok _, ⟨_, rfl⟩, q⟩
def rLenAll (K : PySem.W.Frag) : List V → Hp → VK → Prop := fun xs H Q => (∃ x n, xs = [x] ∧ LenV K x H n ∧ Q (.int n) H) ∨ rLenK2 xs H Q ∨ rLenT2 xs H Q
theorem call_lenAll : CallR X (.builtin "len") (rLenAll X.K) := CallR.or call_len (CallR.or call_lenK2 call_lenT2)
theorem zip_len {α : Type} {kvs : List (α × V)} {ds : List D} {f : α × V → D} {Lv : Addr → Prop} {cs : List Addr} (r : RL K mg H Lv cs (kvs.map (·.2)) ds) : ((kvs.map f).zip ds).length = kvs.length := by
  have := r.length
  simp at this
  simp [this]
theorem m_len : CallM K mg (rLenAll K) dLen := by
  intro H ρ μ vs ds Q E w r p
  unfold dLen at p
  split at p
  · rename_i x
    cases r with
    | cons rx t =>
      cases t
      cases hx : lstOf μ x with
      | some xs =>
        rw [hx] at p
        obtain ⟨l, ws, e1, h1, r1⟩ := lstOf_ok w rx hx
        subst e1
        refine .inl ⟨_, ws.length, rfl, .inl ⟨ws, .inl h1, rfl⟩, ?_⟩
        rw [r1.length]
        exact Post.ok w p (.int _)
      | none =>
        rw [hx] at p
        dsimp only at p
        cases hd : dctOf μ x with
        | some z =>
          obtain ⟨t, kds⟩ := z
          rw [hd] at p
          dsimp only at p
          obtain ⟨a, e, hR⟩ := dctOf_rd w rx hd
          subst e
          rcases hR with ⟨_, kvs, ds, h1, h2, h3⟩ | ⟨_, kvs, ds, h1, h2, h3⟩
          · refine .inr (.inl ⟨a, kvs, rfl, h1, ?_⟩)
            rw [h3, zip_len h2] at p
            exact Post.ok w p (.int _)
          · refine .inr (.inr ⟨a, kvs, rfl, h1, ?_⟩)
            rw [h3, zip_len h2] at p
            exact Post.ok w p (.int _)
        | none =>
          rw [hd] at p
          dsimp only at p
          cases rx with
          | tup f rl =>
            refine .inl ⟨_, _, rfl, .inr ⟨_, f.sq, rfl⟩, ?_⟩
            rw [rl.length]
            exact Post.ok w p (.int _)
          | str z =>
            dsimp only at p
            split at p
            · rename_i hl
              exact .inl ⟨_, _, rfl, ⟨lim_line hl, rfl⟩, Post.ok w p (.int _)⟩
            · exact False.elim p
          | _ => exact False.elim p
  · exact False.elim p
def dAbs : List D → M D := fun ds μ => match ds with
  | [.int i] => .ok (.int (if i < 0 then -i else i)) μ
  | _ => .no
theorem m_abs : CallM K mg (fun xs H Q => ∃ i, xs = [V.int i] ∧ Q (.int (if i < 0 then -i else i)) H) dAbs := by
  intro H ρ μ vs ds Q E w r p
  unfold dAbs at p
  split at p
  · cases r with
    | cons rx t =>
      cases t
      cases rx
      exact ⟨_, rfl, Post.ok w p (.int _)⟩
  · exact False.elim p
def dIntC : List D → M D := fun ds μ => match ds with
  | [.int i] => .ok (.int i) μ
  | [.bl k] => .ok (.int (if k then 1 else 0)) μ
  | _ => .no
theorem m_intc : CallM K mg (fun xs H Q => (∃ i, xs = [V.int i] ∧ Q (.int i) H) ∨ ∃ k : Bool, xs = [V.bl k] ∧ Q (.int (if k then 1 else 0)) H) dIntC := by
  intro H ρ μ vs ds Q E w r p
  unfold dIntC at p
  split at p
  · cases r with
    | cons rx t =>
      cases t
      cases rx
      exact .inl ⟨_, rfl, Post.ok w p (.int _)⟩
  · cases r with
    | cons rx t =>
      cases t
      cases rx
      exact .inr ⟨_, rfl, Post.ok w p (.int _)⟩
  · exact False.elim p
def dMax2 : List D → M D := fun ds μ => match ds with
  | [.int i, .int j] => .ok (.int (if j > i then j else i)) μ
  | _ => .no
def dMin2 : List D → M D := fun ds μ => match ds with
  | [.int i, .int j] => .ok (.int (if j < i then j else i)) μ
  | _ => .no
theorem m_max2 : CallM K mg (fun xs H Q => ∃ i j, xs = [V.int i, V.int j] ∧ Q (.int (if j > i then j else i)) H) dMax2 := by
  intro H ρ μ vs ds Q E w r p
  unfold dMax2 at p
  split at p
  · cases r with
    | cons rx t =>
      cases t with
      | cons ry t =>
        cases t
        cases rx
        cases ry
        exact ⟨_, _, rfl, Post.ok w p (.int _)⟩
  · exact False.elim p
theorem m_min2 : CallM K mg (fun xs H Q => ∃ i j, xs = [V.int i, V.int j] ∧ Q (.int (if j < i then j else i)) H) dMin2 := by
  intro H ρ μ vs ds Q E w r p
  unfold dMin2 at p
  split at p
  · cases r with
    | cons rx t =>
      cases t with
      | cons ry t =>
        cases t
        cases rx
        cases ry
        exact ⟨_, _, rfl, Post.ok w p (.int _)⟩
  · exact False.elim p
/-- list(xs) -/
def dListC (k : List D → M D) : List D → M D := fun ds μ => match ds with
  | [x] => (match lstOf μ x with
    | some xs => k xs μ
    | none => (match x with
      | .tup xs => k xs μ
      | _ => .no))
  | _ => .no
theorem m_listc {k : List D → M D} (hk : NewK k) : CallM K mg (fun xs H Q => ∃ p ys, xs = [V.ref p] ∧ (SqL K H p ys ∨ SqT K H p ys) ∧ ∀ l, H l = none → Q (.ref l) (upd H l (.lst ys))) (dListC k) := by
  intro H ρ μ vs ds Q E w r p
  unfold dListC at p
  split at p
  · rename_i x
    cases r with
    | cons rx t =>
      cases t
      cases hx : lstOf μ x with
      | some xs =>
        rw [hx] at p
        obtain ⟨l, ws, e1, h1, r1⟩ := lstOf_ok w rx hx
        subst e1
        exact ⟨l, ws, rfl, .inl (.inl h1), hk _ _ _ _ _ _ _ _ _ w r1 p⟩
      | none =>
        rw [hx] at p
        dsimp only at p
        cases rx with
        | tup f rl => exact ⟨_, _, rfl, .inr f.sq, hk _ _ _ _ _ _ _ _ _ w rl p⟩
        | _ => exact False.elim p
  · exact False.elim p
end
end
end CL

namespace CL
open PySem L2 PySem.Spec PyProof.Rows
section
variable {K : PySem.W.Frag} {mg : Str → Option Value} {H H1 : Hp} {ρ ρ1 : Lc} {μ μ1 : Mem} {E : XK}
theorem live_off {i : Nat} {a : Addr} (l : Live ρ (μ.set i none) a) : Live ρ μ a := by
  rcases l with l | ⟨j, e, h1, h2, h3⟩
  · exact .inl l
  · by_cases hj : i = j
    · subst hj
      have hl : i < μ.length := by
        have := (List.getElem?_eq_some_iff.mp h2).1
        simpa using this
      rw [List.getElem?_set_self hl] at h2
      exact nomatch h2
    · rw [List.getElem?_set_ne hj] at h2
      exact .inr ⟨j, e, h1, h2, h3⟩
theorem exx_off {i : Nat} : Exx H (Live ρ μ) ρ.cs H (Live ρ (μ.set i none)) ρ.cs := ⟨fun _ _ e _ => .inl e, fun _ _ _ l => live_off l, fun _ _ z => z⟩
theorem exm_off {i : Nat} : Exm H ρ μ H ρ (μ.set i none) := ⟨exx_off, rfl, fun _ _ => rfl⟩
theorem wd_off {i : Nat} (w : Wd K mg H ρ μ) : Wd K mg H ρ (μ.set i none) := by
  refine ⟨by simp [w.len], w.nd, w.trk, w.hid, fun j e b h1 h2 => ?_⟩
  by_cases hj : i = j
  · subst hj
    have hl : i < μ.length := by
      have := (List.getElem?_eq_some_iff.mp h1).1
      simpa using this
    rw [List.getElem?_set_self hl] at h1
    exact nomatch h1
  · rw [List.getElem?_set_ne hj] at h1
    exact (w.cell j e b h1 h2).mono exx_off fun _ => rfl
theorem dead_off {i : Nat} {a : Addr} (w : Wd K mg H ρ μ) (hc : ρ.cs[i]? = some a) : ¬ Live ρ (μ.set i none) a := by
  rintro (l | ⟨j, e, h1, h2, _⟩)
  · exact (w.hid a l).2 (List.mem_of_getElem? hc)
  · have hi : i < ρ.cs.length := (List.getElem?_eq_some_iff.mp hc).1
    have hj : j < ρ.cs.length := (List.getElem?_eq_some_iff.mp h1).1
    have e1 : ρ.cs[i] = a := (List.getElem?_eq_some_iff.mp hc).2
    have e2 : ρ.cs[j] = a := (List.getElem?_eq_some_iff.mp h1).2
    have ej : i = j := (List.getElem_inj w.nd).mp (e1.trans e2.symm)
    subst ej
    rw [List.getElem?_set_self (by rw [← w.len]; exact hi)] at h2
    exact nomatch h2
/-- d, its mutable parts still from now on -/
def frzL (f : D → Mem → Option (D × Mem)) : List D → Mem → Option (List D × Mem)
  | [], μ => some ([], μ)
  | d :: ds, μ => match f d μ with
    | none => none
    | some (e, μ1) => match frzL f ds μ1 with
      | none => none
      | some (es, μ2) => some (e :: es, μ2)
def frz : Nat → D → Mem → Option (D × Mem)
  | 0, _, _ => none
  | n + 1, d, μ => match d with
    | .cel i => (match μ[i]? with
      | some (some (.lst ds)) => (match frzL (frz n) ds (μ.set i none) with
        | some (es, m) => some (.lst es, m)
        | none => none)
      | some (some (.dct t kds)) => (match frzL (frz n) (kds.map (·.2)) (μ.set i none) with
        | some (es, m) => some (.dct t ((kds.map (·.1)).zip es), m)
        | none => none)
      | some (some (.ins c fds)) => (match frzL (frz n) (fds.map (·.2)) (μ.set i none) with
        | some (es, m) => some (.ins c ((fds.map (·.1)).zip es), m)
        | none => none)
      | _ => none)
    | d => some (d, μ)
theorem frzL_ok {f : D → Mem → Option (D × Mem)} (hf : ∀ (v : V) (d e : D) (μ μ' : Mem), Wd K mg H ρ μ → Rm K mg H ρ μ v d → f d μ = some (e, μ') → Exm H ρ μ H ρ μ' ∧ Wd K mg H ρ μ' ∧ Rm K mg H ρ μ' v e) :
    ∀ {vs : List V} {ds es : List D} {μ μ' : Mem}, Wd K mg H ρ μ → RLm K mg H ρ μ vs ds → frzL f ds μ = some (es, μ') → Exm H ρ μ H ρ μ' ∧ Wd K mg H ρ μ' ∧ RLm K mg H ρ μ' vs es
  | _, _, es, μ, μ', w, .nil, h => by
    have e := Option.some.inj h
    injection e with e1 e2
    subst e1 e2
    exact ⟨Exm.refl, w, .nil⟩
  | _, _, es, μ, μ', w, .cons (d := d) (ds := ds) r t, h => by
    unfold frzL at h
    cases h1 : f d μ with
    | none => rw [h1] at h; exact nomatch h
    | some z =>
      obtain ⟨e, μ1⟩ := z
      rw [h1] at h
      dsimp only at h
      cases h2 : frzL f ds μ1 with
      | none => rw [h2] at h; exact nomatch h
      | some z2 =>
        obtain ⟨es2, μ2⟩ := z2
        rw [h2] at h
        have e0 := Option.some.inj h
        injection e0 with e1 e2
        subst e1 e2
        obtain ⟨x1, w1, r1⟩ := hf _ d e μ μ1 w r h1
        obtain ⟨x2, w2, r2⟩ := frzL_ok hf w1 (t.mono x1.x) h2
        exact ⟨x1.trans x2, w2, .cons (r1.mono x2.x) r2⟩
theorem map_zip2 {α : Type} {ks : List α} {ds : List D} (h : ks.length = ds.length) : (ks.zip ds).map (·.2) = ds ∧ (ks.zip ds).map (·.1) = ks := by
  constructor
  · rw [show ((fun x : α × D => x.2) = Prod.snd) from rfl, List.map_snd_zip (by omega)]
  · rw [show ((fun x : α × D => x.1) = Prod.fst) from rfl, List.map_fst_zip (by omega)]
theorem frz_ok : ∀ (n : Nat) (v : V) (d e : D) (μ μ' : Mem), Wd K mg H ρ μ → Rm K mg H ρ μ v d → frz n d μ = some (e, μ') → Exm H ρ μ H ρ μ' ∧ Wd K mg H ρ μ' ∧ Rm K mg H ρ μ' v e
  | 0, _, _, _, _, _, _, _, h => nomatch h
  | n + 1, v, d, e, μ, μ', w, r, h => by
    have ih := frz_ok n
    have keep : d = e ∧ μ = μ' → Exm H ρ μ H ρ μ' ∧ Wd K mg H ρ μ' ∧ Rm K mg H ρ μ' v e := fun ⟨z1, z2⟩ => by
      subst z1 z2
      exact ⟨Exm.refl, w, r⟩
    cases r with
    | cel hc =>
      rename_i a i
      unfold frz at h
      dsimp only at h
      cases hm : μ[i]? with
      | none => rw [hm] at h; exact nomatch h
      | some o =>
        rw [hm] at h
        cases o with
        | none => exact nomatch h
        | some d0 =>
          have nl := dead_off w hc
          have c := w.cell i d0 a hm hc
          cases d0 with
          | lst ds =>
            obtain ⟨vs, h1, h2⟩ := c
            dsimp only at h
            cases hf : frzL (frz n) ds (μ.set i none) with
            | none => rw [hf] at h; exact nomatch h
            | some z =>
              obtain ⟨es, m⟩ := z
              rw [hf] at h
              have e0 := Option.some.inj h
              injection e0 with e1 e2
              subst e1 e2
              obtain ⟨x2, w2, r2⟩ := frzL_ok ih (wd_off w) (h2.mono exx_off) hf
              exact ⟨exm_off.trans x2, w2, .lst ⟨.inl h1, x2.x.nl h1 nl⟩ r2⟩
          | dct t kds =>
            dsimp only at h
            cases hf : frzL (frz n) (kds.map (·.2)) (μ.set i none) with
            | none => rw [hf] at h; exact nomatch h
            | some z =>
              obtain ⟨es, m⟩ := z
              rw [hf] at h
              have e0 := Option.some.inj h
              injection e0 with e1 e2
              subst e1 e2
              cases t with
              | false =>
                obtain ⟨kvs, ds, h1, h2, h3⟩ := c
                have hl : (kvs.map fun p => kD p.1).length = ds.length := by
                  have := h2.length
                  simpa using this
                subst h3
                obtain ⟨q1, q2⟩ := map_zip2 hl
                rw [q1] at hf
                obtain ⟨x2, w2, r2⟩ := frzL_ok ih (wd_off w) (h2.mono exx_off) hf
                exact ⟨exm_off.trans x2, w2, .dK (.inl h1) (x2.x.nl h1 nl) rfl r2 (by rw [q2])⟩
              | true =>
                obtain ⟨kvs, ds, h1, h2, h3⟩ := c
                have hl : (kvs.map fun p => D.tup (p.1.map kD)).length = ds.length := by
                  have := h2.length
                  simpa using this
                subst h3
                obtain ⟨q1, q2⟩ := map_zip2 hl
                rw [q1] at hf
                obtain ⟨x2, w2, r2⟩ := frzL_ok ih (wd_off w) (h2.mono exx_off) hf
                exact ⟨exm_off.trans x2, w2, .dT (.inl h1) (x2.x.nl h1 nl) rfl r2 (by rw [q2])⟩
          | ins c' fds =>
            obtain ⟨C, dx, fs, ds, h1, h1b, h1c, h4, h2, h3⟩ := c
            dsimp only at h
            cases hf : frzL (frz n) (fds.map (·.2)) (μ.set i none) with
            | none => rw [hf] at h; exact nomatch h
            | some z =>
              obtain ⟨es, m⟩ := z
              rw [hf] at h
              have e0 := Option.some.inj h
              injection e0 with e1 e2
              subst e1 e2
              have hl : (fs.map (·.1)).length = ds.length := by
                have := h2.length
                simpa using this
              subst h3
              obtain ⟨q1, q2⟩ := map_zip2 hl
              rw [q1] at hf
              obtain ⟨x2, w2, r2⟩ := frzL_ok ih (wd_off w) (h2.mono exx_off) hf
              exact ⟨exm_off.trans x2, w2, .ins h1 (x2.x.nl h1 nl) h4 rfl r2 (by rw [q2])⟩
          | _ => exact nomatch h
    | _ =>
      have e0 := Option.some.inj h
      injection e0 with e1 e2
      exact keep ⟨e1, e2⟩
def dFrz : D → M D := fun d μ => match frz 4 d μ with
  | some (e, m) => .ok e m
  | none => .no
/-- the value, still from now on -/
def mFrz (a : ME) : ME := fun env μ => (a env μ).bind dFrz
theorem se_frz {X : Cx} {W : WX} {e : Expr} {ma : ME} (h : SE X W e ma) : SE X W e (mFrz ma) := by
  refine PE.imp h fun σ H Q ⟨ρ, μ, env, w, re, p⟩ => ?_
  refine ⟨ρ, μ, env, w, re, ?_⟩
  unfold mFrz at p
  cases h1 : ma env μ with
  | ok d μ1 =>
    rw [h1] at p
    intro v H1 ρ1 e1 w1 r1
    have p1 : Post X.K X.mg (dFrz d μ1) H1 ρ1 μ1 Q _ := Post.base e1 p
    unfold dFrz at p1
    cases hf : frz 4 d μ1 with
    | none => rw [hf] at p1; exact False.elim p1
    | some z =>
      obtain ⟨e2, m⟩ := z
      rw [hf] at p1
      obtain ⟨x2, w2, r2⟩ := frz_ok 4 v d e2 μ1 m w1 r1 hf
      exact p1 v H1 ρ1 x2 w2 r2
  | ex c x m => rw [h1] at p; exact p
  | no => rw [h1] at p; exact p

def asSeq : D → M Its := fun d μ => match d with
  | .tup ds => .ok ⟨ds, none⟩ μ
  | .str x => .ok ⟨signs x, none⟩ μ
  | d => asLst d μ
def iSeq (a : ME) : MI := fun env μ => (a env μ).bind asSeq
theorem PI.or {X : Cx} {tg e : Expr} {t t' : TI} (h : PI X tg e t) (h' : PI X tg e t') : PI X tg e (fun σ H R => t σ H R ∨ t' σ H R) := ⟨fun pins s σ H R I q => by
  rcases q with q | q
  · exact h.run pins s σ H R I q
  · exact h'.run pins s σ H R I q⟩
theorem si_seq {X : Cx} {W : WX} {tg l : Expr} {ml : ME} (hl : SE X W l ml) : SI X W tg l (iSeq ml) := by
  refine PI.imp (PI.or (si_list hl) (PI.or (si_tup hl) (si_str hl))) fun σ H R ⟨ρ, μ, env, w, re, p⟩ => ?_
  cases h1 : ml env μ with
  | ok d m =>
    unfold iSeq at p
    rw [h1] at p
    cases d with
    | tup ds => exact .inr (.inl ⟨ρ, μ, env, w, re, by unfold iTupM; rw [h1]; exact p⟩)
    | str x => exact .inr (.inr ⟨ρ, μ, env, w, re, by unfold iStrM; rw [h1]; exact p⟩)
    | _ => exact .inl ⟨ρ, μ, env, w, re, by unfold iLst; rw [h1]; exact p⟩
  | ex c x m => exact .inl ⟨ρ, μ, env, w, re, by unfold iSeq at p; unfold iLst; rw [h1] at p ⊢; exact p⟩
  | no => exact .inl ⟨ρ, μ, env, w, re, by unfold iSeq at p; rw [h1] at p; exact False.elim p⟩
def dIn (neg : Bool) : D → D → M D := fun a b μ => match dctOf μ b with
  | some _ => dInD neg a b μ
  | none => inOf neg a b μ
/-- two readings of one comparison, chosen by the data -/
theorem bin_or {W : WX} {ma mb : ME} {g1 g2 g : D → D → M D} {c : D → D → Mem → Bool} (h1 : ∀ a b μ, c a b μ = true → g a b μ = g1 a b μ) (h2 : ∀ a b μ, c a b μ = false → g a b μ = g2 a b μ) {σ : L2.St} {Q : VK}
    (h : tM K mg W (mBin g ma mb) σ H Q) : tM K mg W (mBin g1 ma mb) σ H Q ∨ tM K mg W (mBin g2 ma mb) σ H Q := by
  obtain ⟨ρ, μ, env, w, re, p⟩ := h
  unfold mBin at p
  cases e1 : ma env μ with
  | ok x m1 =>
    cases e2 : mb env m1 with
    | ok y m2 =>
      have p2 : Post K mg (g x y m2) H ρ μ Q (fun c od H' => W c od σ H') := by
        rw [e1] at p
        have p : Post K mg ((mb env m1).bind fun y => g x y) H ρ μ Q _ := p
        rw [e2] at p
        exact p
      cases hc : c x y m2 with
      | true =>
        rw [h1 x y m2 hc] at p2
        refine .inl ⟨ρ, μ, env, w, re, ?_⟩
        unfold mBin
        rw [e1]
        show Post K mg ((mb env m1).bind fun y => g1 x y) H ρ μ Q _
        rw [e2]
        exact p2
      | false =>
        rw [h2 x y m2 hc] at p2
        refine .inr ⟨ρ, μ, env, w, re, ?_⟩
        unfold mBin
        rw [e1]
        show Post K mg ((mb env m1).bind fun y => g2 x y) H ρ μ Q _
        rw [e2]
        exact p2
    | ex c x m =>
      refine .inl ⟨ρ, μ, env, w, re, ?_⟩
      unfold mBin
      rw [e1] at p ⊢
      have p : Post K mg ((mb env m1).bind fun y => g _ y) H ρ μ Q _ := p
      show Post K mg ((mb env m1).bind fun y => g1 _ y) H ρ μ Q _
      rw [e2] at p ⊢
      exact p
    | no =>
      rw [e1] at p
      have p : Post K mg ((mb env m1).bind fun y => g x y) H ρ μ Q _ := p
      rw [e2] at p
      exact False.elim p
  | ex c x m =>
    refine .inl ⟨ρ, μ, env, w, re, ?_⟩
    unfold mBin
    rw [e1] at p ⊢
    exact p
  | no => rw [e1] at p; exact False.elim p
section
variable {X : Cx} {W : WX} {a b e : Expr} {es : List Expr} {pos p : Pos} {ma mb : ME} {ml : ML} {k n : Nat}
theorem op_inA (hr : RmG k X.A) : OpR X (compareOp .In) (rInA X.K) := OpR.or op_inS (op_inD (by have := hr.un; omega))
theorem op_notInA (hr : RmG k X.A) : OpR X (compareOp .NotIn) (rNotInA X.K) := OpR.or op_notInS (op_notInD (by have := hr.un; omega))
theorem se_in (hr : RmG k X.A) (ha : SE X W a ma) (hb : SE X W b mb) (hm : behindInMarks .In b = false := by rfl) : SE X W (.Compare a [.In] [b] pos) (mBin (dIn false) ma mb) :=
  PE.imp (PE.or (se_inD hr ha hb hm) (se_cmpR (op_inA hr) m_in ha hb hm)) fun σ H Q h => bin_or (c := fun a b μ => (dctOf μ b).isSome) (fun a b μ hc => by unfold dIn; obtain ⟨z, hz⟩ := Option.isSome_iff_exists.mp hc; rw [hz]) (fun a b μ hc => by unfold dIn; cases hz : dctOf μ b with
    | none => rfl
    | some z => rw [hz] at hc; exact nomatch hc) h
theorem se_notin (hr : RmG k X.A) (ha : SE X W a ma) (hb : SE X W b mb) (hm : behindInMarks .NotIn b = false := by rfl) : SE X W (.Compare a [.NotIn] [b] pos) (mBin (dIn true) ma mb) :=
  PE.imp (PE.or (se_notinD hr ha hb hm) (se_cmpR (op_notInA hr) m_notin ha hb hm)) fun σ H Q h => bin_or (c := fun a b μ => (dctOf μ b).isSome) (fun a b μ hc => by unfold dIn; obtain ⟨z, hz⟩ := Option.isSome_iff_exists.mp hc; rw [hz]) (fun a b μ hc => by unfold dIn; cases hz : dctOf μ b with
    | none => rfl
    | some z => rw [hz] at hc; exact nomatch hc) h
/-- an expression whose value is a bool, as a test: any comparison too -/
theorem sb_of (h : SE X W e ma) (he : ∀ whole, isTrue e X.env whole = (do let v ← whole; standAt e.pos; holding [v] (truthy v)) := by intro _; rfl) : ST X W e (bVal ma) := sb_val h he

end
end
end CL

namespace CL
open PySem L2 PySem.Spec PyProof.Rows
section
variable {K : PySem.W.Frag} {mg : Str → Option Value} {H H1 : Hp} {ρ ρ1 : Lc} {μ μ1 : Mem} {E : XK}
/-- an instance's class and fields -/
def insOf (μ : Mem) : D → Option (Str × List (Str × D))
  | .ins c fs => some (c, fs)
  | .cel i => (match μ[i]? with
    | some (some (.ins c fs)) => some (c, fs)
    | _ => none)
  | _ => none
theorem insOf_ok {v : V} {d : D} {c : Str} {fds : List (Str × D)} (w : Wd K mg H ρ μ) (r : Rm K mg H ρ μ v d) (h : insOf μ d = some (c, fds)) :
    ∃ a C dx fs ds, v = .ref a ∧ H a = some (.ins C dx fs) ∧ mg c = some (.ref C) ∧ RLm K mg H ρ μ (fs.map (·.2)) ds ∧ fds = (fs.map (·.1)).zip ds := by
  cases r with
  | ins h1 h2 h3 h4 h5 h6 =>
    have e := Option.some.inj h
    injection e with e1 e2
    subst e1 e2 h4
    exact ⟨_, _, _, _, _, rfl, h1, h3, h5, h6⟩
  | @cel a i hc =>
    unfold insOf at h
    dsimp only at h
    cases hm : μ[i]? with
    | none => rw [hm] at h; exact nomatch h
    | some o =>
      rw [hm] at h
      cases o with
      | none => exact nomatch h
      | some d0 =>
        cases d0 with
        | ins c0 fds0 =>
          have e := Option.some.inj h
          injection e with e1 e2
          subst e1 e2
          obtain ⟨C, dx, fs, ds, h1, _, _, h4, h5, h6⟩ := w.cell i _ a hm hc
          exact ⟨a, C, dx, fs, ds, rfl, h1, h4, h5, h6⟩
        | _ => exact nomatch h
  | _ => exact nomatch h
theorem fld_rel {Lv : Addr → Prop} {cs : List Addr} {f : Str} : ∀ {fs : List (Str × V)} {ds : List D}, RL K mg H Lv cs (fs.map (·.2)) ds →
    (∀ d, ((fs.map (·.1)).zip ds).lookup f = some d → ∃ v, fs.lookup f = some v ∧ R K mg H Lv cs v d) ∧ (((fs.map (·.1)).zip ds).lookup f = none → fs.lookup f = none)
  | [], _, r => ⟨fun d e => (nomatch (show (none : Option D) = some d from e)), fun _ => rfl⟩
  | (g, x) :: fs, _, r => by
    cases r with
    | @cons v0 d0 vs ds r t =>
      obtain ⟨i1, i2⟩ := fld_rel (f := f) t
      by_cases hg : (f == g) = true
      · refine ⟨fun d e => ?_, fun e => ?_⟩
        · simp only [List.map_cons, List.zip_cons_cons, List.lookup, hg] at e ⊢
          have e1 := Option.some.inj e
          subst e1
          exact ⟨_, rfl, r⟩
        · simp only [List.map_cons, List.zip_cons_cons, List.lookup, hg] at e
          exact nomatch e
      · have hg' : (f == g) = false := by simpa using hg
        refine ⟨fun d e => ?_, fun e => ?_⟩
        · simp only [List.map_cons, List.zip_cons_cons, List.lookup, hg'] at e ⊢
          exact i1 d e
        · simp only [List.map_cons, List.zip_cons_cons, List.lookup, hg'] at e ⊢
          exact i2 e
/-- a field is written -/
def putD (f : Str) (d : D) : List (Str × D) → List (Str × D)
  | [] => [(f, d)]
  | (g, x) :: r => if g = f then (g, d) :: r else (g, x) :: putD f d r
theorem putD_rel {Lv : Addr → Prop} {cs : List Addr} {f : Str} {v : V} {d : D} (rv : R K mg H Lv cs v d) : ∀ {fs : List (Str × V)} {ds : List D}, RL K mg H Lv cs (fs.map (·.2)) ds →
    ∃ ds', RL K mg H Lv cs ((putF f v fs).map (·.2)) ds' ∧ putD f d ((fs.map (·.1)).zip ds) = ((putF f v fs).map (·.1)).zip ds'
  | [], _, r => by
    cases r
    exact ⟨[d], .cons rv .nil, rfl⟩
  | (g, x) :: fs, _, r => by
    cases r with
    | @cons v0 d0 vs ds r t =>
      unfold putF putD
      simp only [List.map_cons, List.zip_cons_cons]
      by_cases hg : g = f
      · rw [if_pos hg, if_pos hg]
        exact ⟨d :: ds, .cons rv t, rfl⟩
      · rw [if_neg hg, if_neg hg]
        obtain ⟨ds', r', e'⟩ := putD_rel rv t
        exact ⟨d0 :: ds', .cons r r', by simp only [List.map_cons, List.zip_cons_cons]; rw [e']⟩
theorem putD_len (f : Str) (d : D) : ∀ fs : List (Str × D), (putD f d fs).length ≤ fs.length + 1
  | [] => Nat.le_refl _
  | (g, x) :: r => by
    unfold putD
    split
    · simp
    · have := putD_len f d r
      simp only [List.length_cons]
      omega
/-- the class c has no attribute f -/
structure NoAt (K : PySem.W.Frag) (mg : Str → Option Value) (c f : Str) : Prop where
  ex : ∃ C, mg c = some (.ref C) ∧ Cls K C ∧ NoAttr K C f
/-- x.f, x of one of the classes cs -/
def dFld (cs : List Str) (f : Str) : D → M D := fun d μ => match insOf μ d with
  | some (c, fds) => if cs.contains c = true then (match fds.lookup f with
    | some x => .ok x μ
    | none => .no) else .no
  | none => .no
theorem zip_len2 {fs : List (Str × V)} {ds : List D} {Lv : Addr → Prop} {cs : List Addr} (r : RL K mg H Lv cs (fs.map (·.2)) ds) : ((fs.map (·.1)).zip ds).length = fs.length := by
  have := r.length
  rw [List.length_map] at this
  rw [List.length_zip, List.length_map]
  omega
section
variable {X : Cx} {W : WX} {o a b e : Expr} {es : List Expr} {pos : Pos} {mo ma mb : ME} {ml : ML} {k n : Nat} {cs : List Str} {f : Str}
theorem se_fld (hcs : ∀ c ∈ cs, NoAt X.K X.mg c f) (ho : SE X W o mo) (hb : attributeBase o f X.env (eval o X.env) = eval o X.env := by rfl) : SE X W (.Attribute o f pos) (mUn (dFld cs f) mo) := by
  refine PE.imp (pe_fld ho hb) fun σ H Q ⟨ρ, μ, env, w, re, p⟩ => ?_
  refine ⟨ρ, μ, env, w, re, Post.imp (post_bind p) (fun v H1 ⟨d, ρ1, μ1, e1, w1, r1, p1⟩ => ?_) fun _ _ _ z => z⟩
  unfold dFld at p1
  cases hi : insOf μ1 d with
  | none => rw [hi] at p1; exact False.elim p1
  | some z =>
    obtain ⟨c, fds⟩ := z
    rw [hi] at p1
    dsimp only at p1
    by_cases hc : cs.contains c = true
    · rw [if_pos hc] at p1
      obtain ⟨a, C, dx, fs, ds, rfl, ha, hm, rl, ez⟩ := insOf_ok w1 r1 hi
      cases hl : fds.lookup f with
      | none => rw [hl] at p1; exact False.elim p1
      | some x =>
        rw [hl] at p1
        rw [ez] at hl
        obtain ⟨v, hv, rv⟩ := (fld_rel rl).1 x hl
        obtain ⟨C', hm', cl, na⟩ := (hcs c (by simpa using hc)).ex
        have ec : C' = C := by
          have := hm'.symm.trans hm
          injection this with this
          injection this
        subst ec
        exact ⟨a, _, dx, fs, v, rfl, ha, cl, na, hv, Post.ok w1 p1 rv⟩
    · rw [if_neg hc] at p1
      exact False.elim p1
/-- the mutable instance at a has another field -/
theorem cell_ins {i : Nat} {a C dx : Addr} {c : Str} {fds fds' : List (Str × D)} {fs' : List (Str × V)} {ds' : List D} (w : Wd K mg H ρ μ) (hc : ρ.cs[i]? = some a) (hm : μ[i]? = some (some (.ins c fds))) (hd : H dx = some (.own a)) (nd : ¬ Live ρ μ dx) (hC : mg c = some (.ref C)) (r : RLm K mg H ρ μ (fs'.map (·.2)) ds')
    (ez : fds' = (fs'.map (·.1)).zip ds') (hda : dx ≠ a) : Exm H ρ μ (upd H a (.ins C dx fs')) ρ (μ.set i (some (.ins c fds'))) ∧ Wd K mg (upd H a (.ins C dx fs')) ρ (μ.set i (some (.ins c fds'))) := by
  have ex := exm_set (d' := .ins c fds') (o := .ins C dx fs') w hc hm
  refine ⟨ex, wd_set w hc hm ⟨C, dx, fs', ds', upd_same, (upd_ne hda).trans hd, ?_, hC, r.mono ex.x, ez⟩⟩
  exact fun z => nd ((live_set hm rfl rfl dx).mp z)
/-- o.f = value -/
def sFld (cs : List Str) (f : Str) (mo mv : ME) : MS := fun env μ => (mv env μ).st env fun y m1 => (mo env m1).st env fun x m2 => match x with
  | .cel i => (match m2[i]? with
    | some (some (.ins c fds)) => if cs.contains c = true ∧ fds.length < 1000 then .nx env (m2.set i (some (.ins c (putD f y fds)))) else .no
    | _ => .no)
  | _ => .no
theorem s_fld {value : Expr} {pos' : Pos} {mv : ME} (hcs : ∀ c ∈ cs, NoAt X.K X.mg c f) (ho : SE X W o mo) (hv : SE X W value mv) (hs : swapsWith value (some (.Attribute o f pos')) pos.line X.env = pure false := by rfl) : SS X W (.Assign [.Attribute o f pos'] value pos) (sFld cs f mo mv) := by
  refine PS.imp (ps_fld ho hv hs) fun Dn σ H ⟨ρ, μ, env, w, re, p⟩ => ?_
  refine ⟨ρ, μ, env, w, re, Post.imp (post_st re p) (fun y H1 ⟨dy, ρ1, μ1, e1, w1, re1, r1, p1⟩ => ?_) fun _ _ _ z => z⟩
  refine ⟨ρ1, μ1, env, w1, re1, Post.imp (post_st re1 p1) (fun x H2 ⟨d, ρ2, μ2, e2, w2, re2, r2, p2⟩ => ?_) fun _ _ _ z => z⟩
  cases r2 with
  | @cel a i hc =>
    dsimp only at p2
    cases hm : μ2[i]? with
    | none => rw [hm] at p2; exact False.elim p2
    | some ob =>
      rw [hm] at p2
      cases ob with
      | none => exact False.elim p2
      | some d0 =>
        cases d0 with
        | ins c fds =>
          dsimp only at p2
          by_cases hcc : cs.contains c = true ∧ fds.length < 1000
          · rw [if_pos hcc] at p2
            obtain ⟨C, dx, fs, ds, h1, h2, h3, h4, h5, h6⟩ := w2.cell i _ a hm hc
            obtain ⟨C', hm', cl, na⟩ := (hcs c (by simpa using hcc.1)).ex
            have ec : C' = C := by
              have := hm'.symm.trans h4
              injection this with this
              injection this
            subst ec
            have hda : dx ≠ a := fun z => by
              rw [z, h1] at h2
              exact nomatch h2
            obtain ⟨ds', r', e'⟩ := putD_rel (f := f) (r1.mono e2.x) h5
            refine ⟨a, _, dx, fs, rfl, h1, cl, na, ?_, ?_⟩
            · have := zip_len2 h5
              rw [← h6] at this
              omega
            · obtain ⟨x3, w3⟩ := cell_ins (fds' := putD f dy fds) w2 hc hm h2 h3 h4 r' (by rw [h6]; exact e') hda
              exact p2 σ _ ρ2 x3 w3 (re2.mono x3)
          · rw [if_neg hcc] at p2
            exact False.elim p2
        | _ => exact False.elim p2
  | _ => exact False.elim p2
end
end
end CL

namespace CL
open PySem L2 PySem.Spec PyProof.Rows
structure PC (X : Cx) (es : List Expr) (kws : List Keyword) (ks : List Str) (t tk : TA) : Prop where
  run : ∀ (pos : Pos) (pins : List (Addr × Obj)) (s : Shared) (σ : L2.St) (H : Hp) (f : Value) (first : List Value) (Q : Value → Shared → Prop), PySem.W.keepIn X.K f = true → Inv X pins σ H s →
    t σ H (fun vs H1 => tk σ H1 fun zs H2 => ∀ (us ws : List Value) (s2 : Shared), Inv X pins σ H2 s2 → Vals vs us → Vals zs ws →
      wpAny (model X.prog X.w) X.A (call f (first ++ us) (ks.zip ws)) Q X.xe s2) →
    wpAny (model X.prog X.w) X.A (callWith pos f first (backTo pos (starEach es X.env)) (backToKw pos (keywordEach kws X.env))) Q X.xe s
section
variable {X : Cx} {W : WX} {o e : Expr} {es : List Expr} {kws : List Keyword} {ks ps : List Str} {t tk : TA} {p pos apos : Pos} {k n : Nat}
theorem pc_some (ha : PA X (e :: es) t) (hkw : PK X kws tk) (hall : ∀ pos, (backToKw pos (keywordEach kws X.env)).all (·.1.isSome) = true := by intro _; rfl) (hks : ∀ pos, (backToKw pos (keywordEach kws X.env)).filterMap (·.1) = ks := by intro _; rfl)
    (he : starEach (e :: es) X.env = (false, eval e X.env) :: starEach es X.env := by rfl)
    (hpl : ∀ pos, ((backTo pos (starEach (e :: es) X.env)).any (·.1) || (backToKw pos (keywordEach kws X.env)).any (·.1.isNone)) = false := by intro _; rfl) : PC X (e :: es) kws ks t tk := by
  refine ⟨fun pos pins s σ H f first Q hk I h => ?_⟩
  refine PySem.W.callWith_KW (h₀ := X.base) I.ok.mod.kin hk (hall pos) (thn (ha.run pos pins s σ H _ I h) fun us s1 hh => ?_) (hpl pos) he
  obtain ⟨vs, H1, I1, r, q⟩ := hh
  refine thn (hkw.run pos pins s1 σ H1 _ I1 q) fun ws s2 hh2 => ?_
  obtain ⟨zs, H2, I2, rz, q2⟩ := hh2
  refine ⟨I2.kIn, ?_⟩
  rw [hks pos]
  exact q2 us ws s2 I2 r rz
theorem pc_none (hkw : PK X kws tk) (hall : ∀ pos, (backToKw pos (keywordEach kws X.env)).all (·.1.isSome) = true := by intro _; rfl) (hks : ∀ pos, (backToKw pos (keywordEach kws X.env)).filterMap (·.1) = ks := by intro _; rfl)
    (hpl : ∀ pos, ((backTo pos (starEach [] X.env)).any (·.1) || (backToKw pos (keywordEach kws X.env)).any (·.1.isNone)) = false := by intro _; rfl) : PC X [] kws ks tNil tk := by
  refine ⟨fun pos pins s σ H f first Q hk I h => ?_⟩
  refine PySem.W.callWith_KW0 (h₀ := X.base) I.ok.mod.kin hk (hall pos) (thn (hkw.run pos pins s σ H _ I h) fun ws s2 hh2 => ?_) (hpl pos)
  obtain ⟨zs, H2, I2, rz, q2⟩ := hh2
  refine ⟨I2.kIn, ?_⟩
  rw [hks pos]
  exact q2 [] ws s2 I2 .nil rz
variable {CX : CXT} {f C : Addr} {fd : FuncData} {sp : Sp} {E : XK} {pins : List (Addr × Obj)} {σ : L2.St} {H : Hp} {s : Shared} {Q : VK} {us full : List Value} {kw : List (Str × Value)} {vs : List V}
theorem run_go (F : FnG X.prog X.w X.K X.mg X.base CX k f fd ps sp) (hr : RmG k X.A) (bt : BindsTo s fd ⟨us, kw⟩ (ps.zip full)) (hx : PassesAt CX X σ E) (I : Inv X pins σ H s) (r : Vals vs full) (h : sp vs H Q E) :
    wpAny (model X.prog X.w) X.A (call (.ref f) us kw) (EP X pins σ Q) X.xe s := by
  refine wpAny_call (codeAny_mono (F.run X.A X.stack s H ⟨us, kw⟩ full vs Q E hr I.env0 bt r h) fun out s1 z => ?_)
  cases out with
  | ok fl =>
    cases fl with
    | ret u => exact I.after z
    | next => exact False.elim z
    | brk => exact False.elim z
    | cont => exact False.elim z
  | error x => exact hx pins H s x s1 I z
theorem make_go (Mc : Mk X.K C f) (F : FnG X.prog X.w X.K X.mg X.base CX k f fd ps sp) (hr : RmG (k + 1) X.A) {fullV : Value → List Value} {vsV : V → List V}
    (bt : ∀ (s1 : Shared) (a : Value), X.K.In s1.heap → BindsTo s1 fd ⟨a :: us, kw⟩ (ps.zip (fullV a))) (hx : PassesAt CX X σ E) (I : Inv X pins σ H s) (r : ∀ a, Vals (vsV (.ref a)) (fullV (.ref a)))
    (h : ∀ x dx, H x = none → H dx = none → dx ≠ x → sp (vsV (.ref x)) (upd (upd H dx (.own x)) x (.ins C dx [])) (fun v H2 => v = .non ∧ Q (.ref x) H2) E) :
    wpAny (model X.prog X.w) X.A (call (.ref C) us kw) (EP X pins σ Q) X.xe s := by
  have z0 := h (s.heap.objs.size + 1) s.heap.objs.size (I.hok.fresh (Nat.le_succ _)) (I.hok.fresh (Nat.le_refl _)) (Nat.ne_of_lt (Nat.lt_succ_self _))
  have Im := Inv.made (C := C) I
  have run := F.run _ X.stack _ _ ⟨Value.ref (s.heap.objs.size + 1) :: us, kw⟩ (fullV (.ref (s.heap.objs.size + 1))) _ _ E (hr.mk2 C us kw) (Im.env0.make C us kw) (bt _ _ Im.kIn) (r _) z0
  refine wpAny_call (make_map (f := f) I.kIn Mc.makes Mc.init (beq_iff_eq.mp Mc.fn) (codeAny_mono run fun out s1 z => ?_))
  cases out with
  | ok fl =>
    cases fl with
    | ret u =>
      obtain ⟨v, H3, I3, rv, ev, q⟩ := Im.after z
      subst ev
      exact ⟨rv, ⟨V.ref (s.heap.objs.size + 1), H3, I3, rfl, q⟩⟩
    | next => exact False.elim z
    | brk => exact False.elim z
    | cont => exact False.elim z
  | error x => exact hx pins _ _ x s1 Im z
end
/-- n positional arguments, keywords named ks: gD puts them in the parameters' order, defaults among them -/
structure BnM (K : PySem.W.Frag) (mg : Str → Option Value) (fd : FuncData) (ps : List Str) (n : Nat) (ks : List Str) (gD : List D → List D → List D) : Prop where
  ex : ∃ g gV, KBn K fd ps n ks g gV ∧ ∀ (H : Hp) (ρ : Lc) (μ : Mem) (vs zs : List V) (ds es : List D), RLm K mg H ρ μ vs ds → RLm K mg H ρ μ zs es → vs.length = n → zs.length = ks.length → RLm K mg H ρ μ (gV vs zs) (gD ds es)
section
variable {K : PySem.W.Frag} {mg : Str → Option Value} {x qual : Str} {params : Arguments} {body : List Stmt} {scope : Scope} {dvs : List V} {kws : List (Str × V)} {f : Addr} {fd : FuncData} {ps : List Str}
abbrev gPos : List D → List D → List D := fun ds _ => ds
theorem BnM.pos (b : Binds K fd ps []) (n : Nat) (hn : n = ps.length) : BnM K mg fd ps n [] gPos :=
  ⟨fun us _ => us, fun vs _ => vs, ⟨fun s us ws X h1 h2 => by
    cases ws with
    | nil =>
      have z := b s us X (by rw [List.append_nil, h1, hn])
      rw [List.append_nil] at z
      exact z
    | cons a r => exact (nomatch h2), fun r _ => r⟩, fun _ _ _ _ _ _ _ r _ _ _ => r⟩
/-- without defaults: keywords for the rest -/
theorem BnM.kw (F : FunD K x qual params body scope [] kws f fd) (n : Nat) (ks : List Str) (g : {α : Type} → List α → List α → List α)
    (hrel : ∀ {vs zs : List V} {us ws : List Value}, Vals vs us → Vals zs ws → Vals (g vs zs) (g us ws)) (hD : ∀ (H : Hp) (ρ : Lc) (μ : Mem) (vs zs : List V) (ds es : List D), RLm K mg H ρ μ vs ds → RLm K mg H ρ μ zs es → vs.length = n → zs.length = ks.length → RLm K mg H ρ μ (g vs zs) (g ds es))
    (h : ∀ (kV doc pm : Value) (an : Option Addr) (cdv ct : Value) (us ws : List Value), us.length = n → ws.length = ks.length → bindArgs (PySem.W.fnOf x qual params body scope .none kV doc pm an cdv ct) ⟨us, ks.zip ws⟩ = pure (ps.zip (g us ws))) : BnM K mg fd ps n ks g := by
  obtain ⟨oc, od, dV, kV, doc, pm, an, cdv, ct, osl, rfl, lk, hcd, hD1, hK⟩ := F.ex
  rcases hD1 with ⟨_, rfl⟩ | ⟨e, _⟩
  · exact ⟨g, g, ⟨fun s us ws X l1 l2 => BindsTo.of_eq (h kV doc pm an cdv ct us ws l1 l2), hrel⟩, hD⟩
  · exact absurd rfl e
end
def withLen (n m : Nat) (gD : List D → List D → List D) (f : List D → M D) (ds es : List D) : M D := fun μ => if ds.length = n ∧ es.length = m then f (gD ds es) μ else .no
def mArgs (a kw : ML) (F : List D → List D → M D) : ME := fun env μ => (a env μ).bind fun ds m1 => (kw env m1).bind fun es => F ds es
def mCallG (n m : Nat) (gD : List D → List D → List D) (f : List D → M D) (a kw : ML) : ME := mArgs a kw (withLen n m gD f)
/-- keywords -/
abbrev SK (X : Cx) (W : WX) (kws : List Keyword) (m : ML) : Prop := PK X kws (tML X.K X.mg W m)
theorem PK.imp {X : Cx} {e : List Keyword} {t t' : TA} (h : PK X e t) (i : ∀ σ H Q, t' σ H Q → t σ H Q) : PK X e t' := ⟨fun pos pins s σ H Q I q => h.run pos pins s σ H Q I (i σ H Q q)⟩
section
variable {X : Cx} {W : WX} {o e : Expr} {es : List Expr} {kws : List Keyword} {ks ps : List Str} {p pos apos kpos : Pos} {k n j : Nat} {ml mk : ML} {me : ME} {nm : Option Str} {g : List D → M D} {gD : List D → List D → List D} {c m x : Str}
theorem sk_nil : SK X W [] mNil := PK.imp pk_nil fun σ H Q ⟨ρ, μ, env, w, re, p⟩ => p [] H ρ Exm.refl w .nil
theorem sk_cons (ha : SE X W e me) (hr : SK X W kws mk) : SK X W (⟨nm, e, kpos⟩ :: kws) (mCons me mk) := by
  refine PK.imp (pk_cons ha hr) fun σ H Q ⟨ρ, μ, env, w, re, p⟩ => ?_
  refine ⟨ρ, μ, env, w, re, Post.imp (post_bindL p) (fun v H1 ⟨d, ρ1, μ1, e1, w1, r1, p1⟩ => ?_) fun _ _ _ z => z⟩
  refine ⟨ρ1, μ1, env, w1, re.mono e1, PostL.imp (postL_bindL p1) (fun vs H2 ⟨ds, ρ2, μ2, e2, w2, r2, p2⟩ => ?_) fun _ _ _ z => z⟩
  exact p2 (v :: vs) H2 ρ2 Exm.refl w2 (.cons (r1.mono e2.x) r2)
/-- the arguments by their mirrors -/
abbrev SC (X : Cx) (W : WX) (es : List Expr) (kws : List Keyword) (ks : List Str) (ml mk : ML) : Prop := PC X es kws ks (tML X.K X.mg W ml) (tML X.K X.mg W mk)
theorem sc_some (ha : SA X W (e :: es) ml) (hkw : SK X W kws mk) (hall : ∀ pos, (backToKw pos (keywordEach kws X.env)).all (·.1.isSome) = true := by intro _; rfl) (hks : ∀ pos, (backToKw pos (keywordEach kws X.env)).filterMap (·.1) = ks := by intro _; rfl)
    (he : starEach (e :: es) X.env = (false, eval e X.env) :: starEach es X.env := by rfl)
    (hpl : ∀ pos, ((backTo pos (starEach (e :: es) X.env)).any (·.1) || (backToKw pos (keywordEach kws X.env)).any (·.1.isNone)) = false := by intro _; rfl) : SC X W (e :: es) kws ks ml mk := pc_some ha hkw hall hks he hpl
theorem sc_none (hkw : SK X W kws mk) (hall : ∀ pos, (backToKw pos (keywordEach kws X.env)).all (·.1.isSome) = true := by intro _; rfl) (hks : ∀ pos, (backToKw pos (keywordEach kws X.env)).filterMap (·.1) = ks := by intro _; rfl)
    (hpl : ∀ pos, ((backTo pos (starEach [] X.env)).any (·.1) || (backToKw pos (keywordEach kws X.env)).any (·.1.isNone)) = false := by intro _; rfl) : SC X W [] kws ks mNil mk :=
  ⟨fun pos pins s σ H f first Q hk I h => (pc_none hkw hall hks hpl).run pos pins s σ H f first Q hk I (by
    obtain ⟨ρ, μ, env, w, re, p⟩ := h
    exact p [] H ρ Exm.refl w .nil)⟩
/-- own defs, own methods, own classes by their names: level k, n parameters in all -/
structure Fn (P : Program) (w : World) (K : PySem.W.Frag) (mg : Str → Option Value) (base : Heap) (f : Addr) (fd : FuncData) (ps : List Str) (k : Nat) (g : List D → M D) : Prop where
  ok : FnG P w K mg base (CXn P w) k f fd ps (spM K mg ps.length g)
  ar : Ar ps.length g
structure ClG (P : Program) (w : World) (K : PySem.W.Frag) (mg : Str → Option Value) (base : Heap) (x : Str) (k : Nat) (g : List D → M D) (n : Nat) (ks : List Str) (gD : List D → List D → List D) : Prop where
  ex : ∃ f fd ps, Fn P w K mg base f fd ps k g ∧ mg x = some (.ref f) ∧ PySem.W.keepIn K (.ref f) = true ∧ BnM K mg fd ps n ks gD
structure ClM (P : Program) (w : World) (K : PySem.W.Frag) (mg : Str → Option Value) (base : Heap) (c m : Str) (k : Nat) (g : List D → M D) (n : Nat) (ks : List Str) (gD : List D → List D → List D) : Prop where
  ex : ∃ C f fd ps, Fn P w K mg base f fd ps k g ∧ mg c = some (.ref C) ∧ Cls K C ∧ Meth K C m f ∧ BnM K mg fd ps (n + 1) ks gD
structure ClI (P : Program) (w : World) (K : PySem.W.Frag) (mg : Str → Option Value) (base : Heap) (c : Str) (k : Nat) (g : List D → M D) (n : Nat) (ks : List Str) (gD : List D → List D → List D) : Prop where
  ex : ∃ C f fd ps, Fn P w K mg base f fd ps k g ∧ mg c = some (.ref C) ∧ Mk K C f ∧ BnM K mg fd ps (n + 1) ks gD
theorem args_in {K : PySem.W.Frag} {mg : Str → Option Value} {H : Hp} {ρ : Lc} {μ : Mem} {σ : L2.St} {env : CL.Env} {F : List D → List D → M D} {T : List V → List V → Hp → Prop} {Q : VK} (w : Wd K mg H ρ μ) (re : REnv K mg H ρ μ σ env)
    (p : Post K mg (mArgs ml mk F env μ) H ρ μ Q (fun c od H' => W c od σ H'))
    (h : ∀ (vs zs : List V) (H2 : Hp) (ds es : List D) (ρ2 : Lc) (μ2 : Mem), Exm H ρ μ H2 ρ2 μ2 → Wd K mg H2 ρ2 μ2 → RLm K mg H2 ρ2 μ2 vs ds → RLm K mg H2 ρ2 μ2 zs es → Post K mg (F ds es μ2) H2 ρ2 μ2 Q (fun c od H' => W c od σ H') → T vs zs H2) :
    tML K mg W ml σ H (fun vs H1 => tML K mg W mk σ H1 fun zs H2 => T vs zs H2) := by
  refine ⟨ρ, μ, env, w, re, ?_⟩
  cases h1 : ml env μ with
  | no => unfold mArgs at p; rw [h1] at p; exact False.elim p
  | ex a b m0 => unfold mArgs at p; rw [h1] at p; exact p
  | ok ds m1 =>
    unfold mArgs at p
    rw [h1] at p
    intro vs H1 ρ1 e1 w1 r1
    refine ⟨ρ1, m1, env, w1, re.mono e1, ?_⟩
    have p1 : Post K mg ((mk env m1).bind fun es => F ds es) H1 ρ1 m1 Q (fun c od H' => W c od σ H') := Post.base e1 p
    cases h2 : mk env m1 with
    | no => rw [h2] at p1; exact False.elim p1
    | ex a b m0 => rw [h2] at p1; exact p1
    | ok es m2 =>
      rw [h2] at p1
      intro zs H2 ρ2 e2 w2 r2
      exact h vs zs H2 ds es ρ2 m2 (e1.trans e2) w2 (r1.mono e2.x) r2 (Post.base e2 p1)
theorem withLen_ok {K : PySem.W.Frag} {mg : Str → Option Value} {H : Hp} {ρ : Lc} {μ : Mem} {n m : Nat} {f : List D → M D} {ds es : List D} {Q : VK} {E : XK} (p : Post K mg (withLen n m gD f ds es μ) H ρ μ Q E) : (ds.length = n ∧ es.length = m) ∧ Post K mg (f (gD ds es) μ) H ρ μ Q E := by
  unfold withLen at p
  by_cases hc : ds.length = n ∧ es.length = m
  · rw [if_pos hc] at p
    exact ⟨hc, p⟩
  · rw [if_neg hc] at p
    exact False.elim p
/-- f(..) -/
theorem se_fnG (cl : ClG X.prog X.w X.K X.mg X.base x j g n ks gD) (hr : RmG k X.A) (hj : j ≤ k) (tk : Takes X W) (hc : SC X W es kws ks ml mk)
    (hg : Gl X x := by rfl) (hdb : (x == ("__debug__" : Str)) = false := by decide) : SE X W (.Call (.Name x p) es kws pos) (mCallG n ks.length gD g ml mk) := by
  refine ⟨fun pins s σ H Q I h => ?_⟩
  obtain ⟨f, fd, ps, Fk, hm, hk, hb⟩ := cl.ex
  obtain ⟨gv, gV, kb, hrel⟩ := hb.ex
  refine wpAny_Call_Name_kw (ld_glob I hg hm ?_ hdb)
  obtain ⟨ρ, μ, env, w, re, pp⟩ := h
  refine hc.run pos pins s σ H (.ref f) [] _ hk I (args_in w re pp fun vs zs H2 ds es ρ2 μ2 e2 w2 r2 z2 p2 => ?_)
  obtain ⟨⟨l1, l2⟩, p3⟩ := withLen_ok p2
  intro us ws s2 I2 ru rz
  have v1 : vs.length = n := r2.length.trans l1
  have v2 : zs.length = ks.length := z2.length.trans l2
  exact run_go Fk.ok (hr.mono hj) (kb.to s2 us ws I2.kIn (ru.length.symm.trans v1) (rz.length.symm.trans v2)) (passAt tk σ) I2 (kb.rel ru rz) (spM_of Fk.ar w2 (hrel _ _ _ _ _ _ _ r2 z2 v1 v2) p3)
/-- o.m(..), o an instance of the class c -/
def mMthG (c m : Str) (n l : Nat) (gD : List D → List D → List D) (f : List D → M D) (o : ME) (a kw : ML) : ME := fun env μ => (o env μ).bind fun x μ1 => match insOf μ1 x with
  | some (c', fds) => if c' = c ∧ fds.lookup m = none then mArgs a kw (fun ds es => withLen (n + 1) l gD f (x :: ds) es) env μ1 else .no
  | none => .no
theorem se_mthG {mo : ME} {pl : Sem Bool} (cl : ClM X.prog X.w X.K X.mg X.base c m j g n ks gD) (hr : RmG k X.A) (hj : j ≤ k) (tk : Takes X W) (ho : SE X W o mo) (hc : SC X W es kws ks ml mk)
    (ht : eval (.Call (.Attribute o m apos) es kws pos) X.env = (do
        let ov ← eval o X.env
        standAt apos.atName
        let (f, first) ← holding [ov] (getMethod ov m pl)
        callWith pos f first (backTo pos (starEach es X.env)) (backToKw pos (keywordEach kws X.env))) := by rfl) : SE X W (.Call (.Attribute o m apos) es kws pos) (mMthG c m n ks.length gD g mo ml mk) := by
  refine ⟨fun pins s σ H Q I h => ?_⟩
  obtain ⟨C, f, fd, ps, Fk, hm, hC, hM, hb⟩ := cl.ex
  obtain ⟨gv, gV, kb, hrel⟩ := hb.ex
  obtain ⟨ρ, μ, env, w, re, pp⟩ := h
  refine PySem.W.methodCall_KW (pl := pl) (thn (ho.run pins s σ H _ I ⟨ρ, μ, env, w, re, Post.imp (post_bind pp) (fun v H1 hh => hh) fun _ _ _ z => z⟩) fun u s1 hh => ?_) ht
  obtain ⟨v, H1, I1, rv, d, ρ1, μ1, e1, w1, r1, p1⟩ := hh
  cases hi : insOf μ1 d with
  | none => rw [hi] at p1; exact False.elim p1
  | some z =>
    obtain ⟨c', fds⟩ := z
    rw [hi] at p1
    dsimp only at p1
    by_cases hcc : c' = c ∧ fds.lookup m = none
    · rw [if_pos hcc] at p1
      obtain ⟨rfl, hl⟩ := hcc
      obtain ⟨a, C', dx, fs, ds0, rfl, ha, hm', rl, ez⟩ := insOf_ok w1 r1 hi
      have ec : C' = C := by
        have := hm'.symm.trans hm
        injection this with this
        injection this
      subst ec
      obtain rfl : u = Value.ref a := rv
      rw [ez] at hl
      refine getmeth_ok I1 ha hC hM ((fld_rel rl).2 hl) ?_
      refine hc.run pos pins s1 σ H1 (.ref f) [.ref a] _ hM.kp I1 (args_in w1 (re.mono e1) p1 fun vs zs H2 ds es ρ2 μ2 e2 w2 r2 z2 p2 => ?_)
      obtain ⟨⟨l1, l2⟩, p3⟩ := withLen_ok p2
      intro us ws s2 I2 ru rz
      have ra : RLm X.K X.mg H2 ρ2 μ2 (V.ref a :: vs) (d :: ds) := .cons (r1.mono e2.x) r2
      have v1 : (V.ref a :: vs).length = n + 1 := ra.length.trans l1
      have v2 : zs.length = ks.length := z2.length.trans l2
      have rua : Vals (V.ref a :: vs) (Value.ref a :: us) := .cons rfl ru
      exact run_go Fk.ok (hr.mono hj) (kb.to s2 (Value.ref a :: us) ws I2.kIn (rua.length.symm.trans v1) (rz.length.symm.trans v2)) (passAt tk σ) I2 (kb.rel rua rz) (spM_of Fk.ar w2 (hrel _ _ _ _ _ _ _ ra z2 v1 v2) p3)
    · rw [if_neg hcc] at p1
      exact False.elim p1
/-- c(..): a new instance, then __init__ -/
def gNew (c : Str) (f : D → M D) : M D := fun μ => match f (.cel μ.length) (μ ++ [some (.ins c [])]) with
  | .ok .non m => .ok (.cel μ.length) m
  | .ok _ _ => .no
  | .ex a b m => .ex a b m
  | .no => .no
def mNewG (c : Str) (n l : Nat) (gD : List D → List D → List D) (f : List D → M D) (a kw : ML) : ME := mArgs a kw (fun ds es => gNew c (fun x => withLen (n + 1) l gD f (x :: ds) es))
theorem se_newG (cl : ClI X.prog X.w X.K X.mg X.base c j g n ks gD) (hr : RmG k X.A) (hj : j + 1 ≤ k) (tk : Takes X W) (hc : SC X W es kws ks ml mk)
    (hg : Gl X c := by rfl) (hdb : (c == ("__debug__" : Str)) = false := by decide) : SE X W (.Call (.Name c p) es kws pos) (mNewG c n ks.length gD g ml mk) := by
  refine ⟨fun pins s σ H Q I h => ?_⟩
  obtain ⟨C, f, fd, ps, Fk, hm, hM, hb⟩ := cl.ex
  obtain ⟨gv, gV, kb, hrel⟩ := hb.ex
  refine wpAny_Call_Name_kw (ld_glob I hg hm ?_ hdb)
  obtain ⟨ρ, μ, env, w, re, pp⟩ := h
  refine hc.run pos pins s σ H (.ref C) [] _ hM.kp I (args_in w re pp fun vs zs H2 ds es ρ2 μ2 e2 w2 r2 z2 p2 => ?_)
  intro us ws s2 I2 ru rz
  have l12 : (ds.length = n) ∧ es.length = ks.length := by
    apply Classical.byContradiction
    intro hn
    unfold gNew at p2
    have e0 : withLen (n + 1) ks.length gD g (.cel μ2.length :: ds) es (μ2 ++ [some (.ins c [])]) = .no := by
      unfold withLen
      rw [if_neg (fun z => hn ⟨by simpa using z.1, z.2⟩)]
    dsimp only at p2
    rw [e0] at p2
    exact p2
  have v1 : vs.length = n := r2.length.trans l12.1
  have v2 : zs.length = ks.length := z2.length.trans l12.2
  refine make_go (vsV := fun x => gV (x :: vs) zs) (fullV := fun a => gv (a :: us) ws) hM Fk.ok (hr.mono hj) (fun s3 a k3 => kb.to s3 (a :: us) ws k3 (by rw [List.length_cons, ← ru.length, v1]) (rz.length.symm.trans v2)) (passAt tk σ) I2 (fun a => kb.rel (.cons rfl ru) rz) fun x dx hx hdx hne => ?_
  have hx2 : (upd H2 dx (.own x)) x = none := (upd_ne (fun z => hne z.symm)).trans hx
  have wA : Wd X.K X.mg (upd H2 dx (.own x)) ρ2 μ2 := w2.new hdx
  have eA : Exm H2 ρ2 μ2 (upd H2 dx (.own x)) ρ2 μ2 := Exm.new w2 hdx
  have eB : Exm (upd H2 dx (.own x)) ρ2 μ2 (upd (upd H2 dx (.own x)) x (.ins C dx [])) (ρ2.push x) (μ2 ++ [some (.ins c [])]) := Exm.newC wA hx2
  have wB : Wd X.K X.mg (upd (upd H2 dx (.own x)) x (.ins C dx [])) (ρ2.push x) (μ2 ++ [some (.ins c [])]) := wA.newC hx2 ⟨C, dx, [], [], upd_same, (upd_ne hne).trans upd_same, fun l => by
    rcases Live.push wA l with e | l
    · exact hne e
    · exact w2.fresh hdx ((by exact l)), hm, .nil, rfl⟩
  have ra : RLm X.K X.mg (upd (upd H2 dx (.own x)) x (.ins C dx [])) (ρ2.push x) (μ2 ++ [some (.ins c [])]) (V.ref x :: vs) (.cel μ2.length :: ds) := .cons (Rm.newC wA) ((r2.mono eA.x).mono eB.x)
  unfold gNew at p2
  refine spM_of Fk.ar wB (hrel _ _ _ _ _ _ _ ra ((z2.mono eA.x).mono eB.x) (by rw [List.length_cons, v1]) v2) ?_
  have e0 : withLen (n + 1) ks.length gD g (.cel μ2.length :: ds) es (μ2 ++ [some (.ins c [])]) = g (gD (.cel μ2.length :: ds) es) (μ2 ++ [some (.ins c [])]) := by
    unfold withLen
    rw [if_pos ⟨by rw [List.length_cons, l12.1], l12.2⟩]
  dsimp only at p2
  rw [e0] at p2
  cases hg2 : g (gD (.cel μ2.length :: ds) es) (μ2 ++ [some (.ins c [])]) with
  | no => rw [hg2] at p2; exact p2
  | ex a b m0 =>
    rw [hg2] at p2
    intro cls od H3 ρ3 e3 w3 x3
    exact p2 cls od H3 ρ3 (eA.trans (eB.trans e3)) w3 x3
  | ok d m0 =>
    rw [hg2] at p2
    intro v H3 ρ3 e3 w3 r3
    cases d with
    | non =>
      cases r3
      exact ⟨rfl, p2 (.ref x) H3 ρ3 (eA.trans (eB.trans e3)) w3 ((Rm.newC (d := .ins c []) (H' := upd (upd H2 dx (.own x)) x (.ins C dx [])) wA).mono e3.x)⟩
    | _ => exact False.elim p2
end
end CL

namespace CL
open PySem L2 PySem.Spec PyProof.Rows
section
variable {K : PySem.W.Frag} {mg : Str → Option Value} {H H1 : Hp} {ρ ρ1 : Lc} {μ μ1 : Mem} {E : XK}
def setD (x k y : D) (μ : Mem) : Option Mem := match x with
  | .cel i => (match μ[i]? with
    | some (some (.lst ds)) => (match k with
      | .int j => (match ixN ds.length j with
        | some p => some (μ.set i (some (.lst (ds.set p y))))
        | none => none)
      | _ => none)
    | some (some (.dct t kds)) => if keyOk t k = true ∧ kds.length < lim then some (μ.set i (some (.dct t (dput kds k y)))) else none
    | _ => none)
  | _ => none
/-- the mutable dict at a changes -/
theorem set_dK {i : Nat} {a : Addr} {kds : List (D × D)} {kvs' : List (Key × V)} {ds' : List D} (w : Wd K mg H ρ μ) (hc : ρ.cs[i]? = some a) (hm : μ[i]? = some (some (.dct false kds))) (r : RLm K mg H ρ μ (kvs'.map (·.2)) ds') :
    Exm H ρ μ (upd H a (.dK kvs')) ρ (μ.set i (some (.dct false ((kvs'.map fun p => kD p.1).zip ds')))) ∧ Wd K mg (upd H a (.dK kvs')) ρ (μ.set i (some (.dct false ((kvs'.map fun p => kD p.1).zip ds')))) := by
  have ex := exm_set (d' := .dct false ((kvs'.map fun p => kD p.1).zip ds')) (o := .dK kvs') w hc hm
  exact ⟨ex, wd_set w hc hm ⟨kvs', ds', upd_same, r.mono ex.x, rfl⟩⟩
theorem set_dT {i : Nat} {a : Addr} {kds : List (D × D)} {kvs' : List (List Key × V)} {ds' : List D} (w : Wd K mg H ρ μ) (hc : ρ.cs[i]? = some a) (hm : μ[i]? = some (some (.dct true kds))) (r : RLm K mg H ρ μ (kvs'.map (·.2)) ds') :
    Exm H ρ μ (upd H a (.dT kvs')) ρ (μ.set i (some (.dct true ((kvs'.map fun p => D.tup (p.1.map kD)).zip ds')))) ∧ Wd K mg (upd H a (.dT kvs')) ρ (μ.set i (some (.dct true ((kvs'.map fun p => D.tup (p.1.map kD)).zip ds')))) := by
  have ex := exm_set (d' := .dct true ((kvs'.map fun p => D.tup (p.1.map kD)).zip ds')) (o := .dT kvs') w hc hm
  exact ⟨ex, wd_set w hc hm ⟨kvs', ds', upd_same, r.mono ex.x, rfl⟩⟩
def rSetA : TSet := fun o i v H Q => rSetL o i v H Q ∨ rSetD o i v H Q
theorem set_all {X : Cx} (hu : X.A.units + 1 < cLine) : PSet X rSetA := fun pins s σ H o i v ov iv u Q I ro ri rv h => by
  rcases h with h | h
  · exact set_list pins s σ H o i v ov iv u Q I ro ri rv h
  · exact set_dict hu pins s σ H o i v ov iv u Q I ro ri rv h
theorem setD_ok {o i v : V} {x k y : D} {μ' : Mem} {Q : Hp → Prop} (w : Wd K mg H ρ μ) (ro : Rm K mg H ρ μ o x) (ri : Rm K mg H ρ μ i k) (rv : Rm K mg H ρ μ v y) (h : setD x k y μ = some μ')
    (q : ∀ H', Exm H ρ μ H' ρ μ' → Wd K mg H' ρ μ' → Q H') : rSetA o i v H Q := by
  cases ro with
  | @cel a j hc =>
    unfold setD at h
    dsimp only at h
    cases hm : μ[j]? with
    | none => rw [hm] at h; exact nomatch h
    | some ob =>
      rw [hm] at h
      cases ob with
      | none => exact nomatch h
      | some d0 =>
        cases d0 with
        | lst ds =>
          cases ri with
          | int n =>
            dsimp only at h
            cases hx : ixN ds.length n with
            | none => rw [hx] at h; exact nomatch h
            | some p =>
              rw [hx] at h
              have e := Option.some.inj h
              subst e
              obtain ⟨vs, hH, rl⟩ := w.cell j _ a hm hc
              refine .inl ⟨a, vs, n, p, rfl, rfl, hH, by rw [rl.length]; exact hx, ?_⟩
              obtain ⟨x3, w3⟩ := set_lstU w hc hm (rl.set rv p)
              exact q _ x3 w3
          | _ => exact nomatch h
        | dct t kds =>
          dsimp only at h
          by_cases hk : keyOk t k = true ∧ kds.length < lim
          · rw [if_pos hk] at h
            have e := Option.some.inj h
            subst e
            cases t with
            | false =>
              obtain ⟨kvs, ds, hH, rl, ez⟩ := w.cell j _ a hm hc
              have hlen : kvs.length < sizeLine := by
                have h1 := rl.length
                rw [List.length_map] at h1
                have h2 := congrArg List.length ez
                rw [List.length_zip, List.length_map] at h2
                have h3 := hk.2
                exact lim_lt (by omega)
              obtain ⟨kk, ekk⟩ : ∃ kk : Key, k = kD kk := by
                have h1 := hk.1
                cases ri with
                | int n => exact ⟨.inl n, rfl⟩
                | str s => exact ⟨.inr s, rfl⟩
                | _ => exact nomatch h1
              subst ekk
              have ei := R.key ri
              subst ei
              obtain ⟨ds', r', e'⟩ := dput_rel (f := kD) (fun _ _ z => kD_inj z) rv rl kk
              obtain ⟨x3, w3⟩ := set_dK w hc hm r'
              refine .inr ⟨a, _, rfl, DPut.k hH hlen, ?_⟩
              rw [ez, e'] at q
              exact q _ x3 w3
            | true =>
              obtain ⟨kvs, ds, hH, rl, ez⟩ := w.cell j _ a hm hc
              have hlen : kvs.length < sizeLine := by
                have h1 := rl.length
                rw [List.length_map] at h1
                have h2 := congrArg List.length ez
                rw [List.length_zip, List.length_map] at h2
                have h3 := hk.2
                exact lim_lt (by omega)
              have hk1 := hk.1
              cases ri with
              | tup hT rT =>
                rename_i b vs ls
                obtain ⟨b', kk, eb, hb, el⟩ := key_tup (R.tup hT rT) hk1
                have eb' := V.ref.inj eb
                subst eb' el
                obtain ⟨ds', r', e'⟩ := dput_rel (f := fun kk : List Key => D.tup (kk.map kD)) (fun _ _ z => dT_inj z) rv rl kk
                obtain ⟨x3, w3⟩ := set_dT w hc hm r'
                refine .inr ⟨a, _, rfl, DPut.t hH hb hlen, ?_⟩
                rw [ez, e'] at q
                exact q _ x3 w3
              | _ => exact nomatch hk1
          · rw [if_neg hk] at h
            exact nomatch h
        | _ => exact nomatch h
  | _ => exact nomatch h
def sStore (mo mi mv : ME) : MS := fun env μ => (mv env μ).st env fun y m1 => (mo env m1).st env fun x m2 => (mi env m2).st env fun k m3 => match setD x k y m3 with
  | some m4 => .nx env m4
  | none => .no
section
variable {X : Cx} {W : WX} {a b c o e i value : Expr} {es : List Expr} {pos pos' p : Pos} {ma mb mc mo mi mv : ME} {ml : ML} {k n : Nat}
theorem s_store (hr : RmG k X.A) (ho : SE X W o mo) (hi : SE X W i mi) (hv : SE X W value mv) (hs : swapsWithSole [.Subscript o i pos'] value pos.line X.env = pure false := by rfl) (hw : swappedStores [.Subscript o i pos'] value X.env = pure none := by rfl)
    (h1 : (assignEach [.Subscript o i pos'] X.env).map (·.2) = [assign (.Subscript o i pos') X.env] := by rfl)
    (ha : ∀ v, assign (.Subscript o i pos') X.env v = (do
      let ov ← holding [v] (eval o X.env)
      let iv ← holding [v, ov] (eval i X.env)
      standAt pos'
      holding [v, ov, iv] (setItem ov iv v)
      release [v, ov, iv] []) := by intro _; rfl) : SS X W (.Assign [.Subscript o i pos'] value pos) (sStore mo mi mv) := by
  refine PS.imp (ps_asg hv (pg_sub ho hi (set_all (by have := hr.un; omega)) ha) hs hw h1) fun Dn σ H ⟨ρ, μ, env, w, re, p⟩ => ?_
  refine ⟨ρ, μ, env, w, re, Post.imp (post_st re p) (fun y H1 ⟨dy, ρ1, μ1, e1, w1, re1, r1, p1⟩ => ?_) fun _ _ _ z => z⟩
  refine ⟨ρ1, μ1, env, w1, re1, Post.imp (post_st re1 p1) (fun x H2 ⟨dx, ρ2, μ2, e2, w2, re2, r2, p2⟩ => ?_) fun _ _ _ z => z⟩
  refine ⟨ρ2, μ2, env, w2, re2, Post.imp (post_st re2 p2) (fun z H3 ⟨dz, ρ3, μ3, e3, w3, re3, r3, p3⟩ => ?_) fun _ _ _ z => z⟩
  cases hd : setD dx dz dy μ3 with
  | none => rw [hd] at p3; exact False.elim p3
  | some m4 =>
    rw [hd] at p3
    exact setD_ok w3 (r2.mono e3.x) r3 ((r1.mono e2.x).mono e3.x) hd fun H' x4 w4 => p3 σ H' ρ3 x4 w4 (re3.mono x4)
theorem se_gint {x : Str} {j : Int} (hm : ∃ t, X.mg x = some (.int j t)) (hg : Gl X x := by rfl) (hd : (x == ("__debug__" : Str)) = false := by decide) : SE X W (.Name x pos) (mC (.int j)) := by
  obtain ⟨t, hm⟩ := hm
  exact se_c (pe_glob (v := .int j) hg hm ⟨t, rfl⟩ hd) fun _ _ _ => .int j
theorem se_gstr {x z : Str} (hm : ∃ t, X.mg x = some (.str z t)) (hg : Gl X x := by rfl) (hd : (x == ("__debug__" : Str)) = false := by decide) : SE X W (.Name x pos) (mC (.str z)) := by
  obtain ⟨t, hm⟩ := hm
  exact se_c (pe_glob (v := .str z) hg hm ⟨t, rfl⟩ hd) fun _ _ _ => .str z
def dNeg : D → M D := fun d μ => match d with
  | .int i => .ok (.int (-i)) μ
  | _ => .no
theorem se_neg (ha : SE X W a ma) : SE X W (.UnaryOp .USub a pos) (mUn dNeg ma) := by
  refine PE.imp (pe_un un_neg ha) fun σ H Q ⟨ρ, μ, env, w, re, p⟩ => ?_
  refine ⟨ρ, μ, env, w, re, Post.imp (post_bind p) (fun v H1 ⟨d, ρ1, μ1, e1, w1, r1, p1⟩ => ?_) fun _ _ _ z => z⟩
  cases r1 with
  | int i => exact ⟨i, rfl, Post.ok w1 p1 (.int _)⟩
  | _ => exact False.elim p1
def mChain (g g' : D → D → M D) (a b c : ME) : ME := fun env μ => (a env μ).bind fun x m1 => (b env m1).bind fun y m2 => (g x y m2).bind fun z m3 => match z with
  | .bl true => (c env m3).bind fun u => g' y u
  | .bl false => .ok (.bl false) m3
  | _ => .no
theorem chain_in {r r' : R2} {g g' : D → D → M D} {σ : L2.St} {H : Hp} {Q : VK} (hg : OpM K mg r g) (hg' : OpM K mg r' g') (h : tM K mg W (mChain g g' ma mb mc) σ H Q) : tChain r r' (tM K mg W ma) (tM K mg W mb) (tM K mg W mc) σ H Q := by
  obtain ⟨ρ, μ, env, w, re, p⟩ := h
  refine ⟨ρ, μ, env, w, re, Post.imp (post_bind p) (fun v H1 ⟨d, ρ1, μ1, e1, w1, r1, p1⟩ => ?_) fun _ _ _ z => z⟩
  refine ⟨ρ1, μ1, env, w1, re.mono e1, Post.imp (post_bind p1) (fun v2 H2 ⟨d2, ρ2, μ2, e2, w2, r2, p2⟩ => ?_) fun _ _ _ z => z⟩
  refine hg H2 ρ2 μ2 v v2 d d2 _ _ w2 (r1.mono e2.x) r2 (Post.imp (post_bind p2) (fun v3 H3 ⟨d3, ρ3, μ3, e3, w3, r3, p3⟩ => ?_) fun _ _ _ z => z)
  cases r3 with
  | bl t =>
    refine ⟨t, rfl, ?_⟩
    cases t with
    | false => exact Post.ok w3 p3 (.bl false)
    | true =>
      rw [if_pos rfl]
      refine ⟨ρ3, μ3, env, w3, ((re.mono e1).mono e2).mono e3, Post.imp (post_bind p3) (fun v4 H4 ⟨d4, ρ4, μ4, e4, w4, r4, p4⟩ => ?_) fun _ _ _ z => z⟩
      exact hg' H4 ρ4 μ4 v2 v4 d2 d4 _ _ w4 ((r2.mono e3.x).mono e4.x) r4 p4
  | _ => exact False.elim p3
theorem se_chain {op op' : CmpOp} {r r' : R2} {g g' : D → D → M D} (ho : OpR X (compareOp op) r) (hg : OpM X.K X.mg r g) (ho' : OpR X (compareOp op') r') (hg' : OpM X.K X.mg r' g') (ha : SE X W a ma) (hb : SE X W b mb) (hc : SE X W c mc)
    (hm : lastMarks [op, op'] [b, c] = false := by with_unfolding_all rfl) : SE X W (.Compare a [op, op'] [b, c] pos) (mChain g g' ma mb mc) :=
  PE.imp (pe_chain ho ho' ha hb hc hm) fun σ H Q h => chain_in hg hg' h
theorem sb_chain {op op' : CmpOp} {r r' : R2} {g g' : D → D → M D} (ho : OpR X (compareOp op) r) (hg : OpM X.K X.mg r g) (ho' : OpR X (compareOp op') r') (hg' : OpM X.K X.mg r' g') (ha : SE X W a ma) (hb : SE X W b mb) (hc : SE X W c mc)
    (hm : lastMarks [op, op'] [b, c] = false := by with_unfolding_all rfl) : ST X W (.Compare a [op, op'] [b, c] pos) (bVal (mChain g g' ma mb mc)) := by
  refine PT.imp (pt_chain ho ho' ha hb hc hm) fun σ H Q ⟨ρ, μ, env, w, re, p⟩ => ?_
  refine chain_in hg hg' ⟨ρ, μ, env, w, re, Post.imp (post_bindB p) (fun v H1 ⟨d, ρ1, μ1, e1, w1, r1, p1⟩ => ?_) fun _ _ _ z => z⟩
  cases r1 with
  | bl t => exact ⟨t, rfl, p1 H1 ρ1 Exm.refl w1⟩
  | _ => exact False.elim p1
def asBls : List D → Option (List Bool)
  | [] => some []
  | .bl b :: ds => (asBls ds).map (b :: ·)
  | _ :: _ => none
theorem RL.bls {Lv : Addr → Prop} {cs : List Addr} : ∀ {vs : List V} {ds : List D} {bs : List Bool}, RL K mg H Lv cs vs ds → asBls ds = some bs → vs = bs.map V.bl
  | _, _, bs, .nil, h => by
    have e := Option.some.inj h
    subst e
    rfl
  | _, _, bs, .cons r t, h => by
    cases r with
    | bl b =>
      unfold asBls at h
      cases h1 : asBls (_ : List D) with
      | none => rw [h1] at h; exact nomatch h
      | some bs' =>
        rw [h1] at h
        have e := Option.some.inj h
        subst e
        rw [RL.bls t h1]
        rfl
    | _ => exact nomatch h
def dAll (f : List Bool → Bool) : List D → M D := fun ds μ => match ds with
  | [x] => (match lstOf μ x with
    | some xs => (match asBls xs with
      | some bs => .ok (.bl (f bs)) μ
      | none => .no)
    | none => .no)
  | _ => .no
theorem m_allOf {f : List Bool → Bool} : CallM K mg (fun vs H Q => ∃ (a : Addr) (bs : List Bool), vs = [V.ref a] ∧ SqL K H a (bs.map V.bl) ∧ Q (.bl (f bs)) H) (dAll f) := by
  intro H ρ μ vs ds Q E w rv p
  unfold dAll at p
  split at p
  · rename_i x
    cases rv with
    | cons r t =>
      cases t
      cases h1 : lstOf μ x with
      | none => rw [h1] at p; exact False.elim p
      | some xs =>
        rw [h1] at p
        dsimp only at p
        cases h2 : asBls xs with
        | none => rw [h2] at p; exact False.elim p
        | some bs =>
          rw [h2] at p
          obtain ⟨a, ws, rfl, hR, rl⟩ := lstOf_ok w r h1
          have e := RL.bls rl h2
          subst e
          exact ⟨a, bs, rfl, .inl hR, Post.ok w p (.bl _)⟩
  · exact False.elim p
theorem m_all : CallM K mg (rAll K) (dAll fun bs => bs.all id) := m_allOf
theorem m_any : CallM K mg (rAny K) (dAll fun bs => bs.any id) := m_allOf
end
end
end CL

namespace CL
open PySem L2 PySem.Spec PyProof.Rows
def kinds : List String := ["NoneType", "bool", "int", "str", "list", "tuple", "dict"]
def isiB (n T : String) : Bool := n == T || (n == "bool" && T == "int")
theorem isi_tab : ∀ n ∈ kinds, ∀ T ∈ kinds.drop 1, kitB n T = some (isiB n T) := by decide +kernel
def kindOf (μ : Mem) : D → Option String
  | .non => some "NoneType"
  | .bl _ => some "bool"
  | .int _ => some "int"
  | .str _ => some "str"
  | .lst _ => some "list"
  | .tup _ => some "tuple"
  | .dct _ _ => some "dict"
  | .cel i => (match μ[i]? with
    | some (some (.lst _)) => some "list"
    | some (some (.dct _ _)) => some "dict"
    | some (some (.tup [.dct _ _])) => some "dict"
    | some (some (.tup [.lst _])) => some "list"
    | _ => none)
  | _ => none
theorem kindOf_in {μ : Mem} {d : D} {n : String} (h : kindOf μ d = some n) : n ∈ kinds := by
  have fin : ∀ {m : String}, m ∈ kinds → some m = some n → n ∈ kinds := fun hm e => Option.some.inj e ▸ hm
  cases d with
  | non => exact fin (by decide) h
  | bl _ => exact fin (by decide) h
  | int _ => exact fin (by decide) h
  | str _ => exact fin (by decide) h
  | lst _ => exact fin (by decide) h
  | tup _ => exact fin (by decide) h
  | dct _ _ => exact fin (by decide) h
  | ins _ _ => exact nomatch h
  | ty _ => exact nomatch h
  | exc _ _ => exact nomatch h
  | cel i =>
    unfold kindOf at h
    dsimp only at h
    split at h
    · exact fin (by decide) h
    · exact fin (by decide) h
    · exact fin (by decide) h
    · exact fin (by decide) h
    · exact nomatch h
/-- what isinstance needs of a value -/
def TyY (K : PySem.W.Frag) (H : Hp) (v : V) (t : Value) : Prop := TyX K H v t ∨ ∃ a ob kvs, v = .ref a ∧ H a = some (.frz ob (.dT kvs)) ∧ t = .type "dict"
def rIsiY (K : PySem.W.Frag) : List V → Hp → VK → Prop := fun xs H Q => ∃ (x c : V) (t u : Value) (b : Bool), xs = [x, c] ∧ ClsV c u ∧ TyY K H x t ∧ PySem.W.kitOne K t u = some b ∧ Q (.bl b) H
theorem call_isiY {X : Cx} : CallR X (.builtin "isinstance") (rIsiY X.K) := by
  intro pins s σ H xs us Q I r h
  obtain ⟨x, c, t, u, b, rfl, k, ty, e, q⟩ := h
  rcases ty with ty | ⟨a, ob, kvs, rfl, ha, rfl⟩
  · exact call_isi pins s σ H _ us Q I r ⟨x, c, t, u, b, rfl, k, ty, e, q⟩
  · obtain ⟨u1, u2, rfl, r1, r2⟩ := vals2 r
    have e2 := k.eq r2
    subst e2
    cases (show u1 = Value.ref a from r1)
    obtain ⟨hs, hgd, hx, _⟩ := I.frzT ha
    exact PySem.W.kia_one PySem.W.kitx_dict I.kIn ⟨ob, hgd, hx.1⟩ e (fun z => nomatch z) fun tk => ⟨.bl b, H, I.tok tk, rfl, q⟩
section
variable {K : PySem.W.Frag} {mg : Str → Option Value} {H H1 : Hp} {ρ ρ1 : Lc} {μ μ1 : Mem} {E : XK}
theorem kindOf_ok {v : V} {d : D} {n : String} (w : Wd K mg H ρ μ) (r : Rm K mg H ρ μ v d) (h : kindOf μ d = some n) : TyY K H v (.type n) := by
  cases r with
  | non => have e := Option.some.inj h; subst e; exact .inl (.base .non)
  | bl b => have e := Option.some.inj h; subst e; exact .inl (.base (.bl b))
  | int i => have e := Option.some.inj h; subst e; exact .inl (.base (.int i))
  | str x => have e := Option.some.inj h; subst e; exact .inl (.base (.str x))
  | lst hL _ =>
    have e := Option.some.inj h
    subst e
    rcases hL.1 with h1 | ⟨o, h1⟩
    · exact .inl (.base (.lst h1))
    · exact .inl (.base (.frz h1))
  | tup hT _ =>
    have e := Option.some.inj h
    subst e
    rcases hT with ⟨h1, _⟩ | ⟨_, o, its, m, h1, h2, _⟩
    · exact .inl (.base (.tup h1))
    · exact .inl (.kTuple h1 h2)
  | dK h1 _ _ _ _ =>
    have e := Option.some.inj h
    subst e
    rcases h1 with h1 | ⟨o, h1⟩
    · exact .inl (.base (.dK h1))
    · exact .inl (.fDict h1)
  | dT h1 _ _ _ _ =>
    have e := Option.some.inj h
    subst e
    rcases h1 with h1 | ⟨o, h1⟩
    · exact .inl (.base (.dT h1))
    · exact .inr ⟨_, _, _, rfl, h1, rfl⟩
  | @cel a i hc =>
    unfold kindOf at h
    dsimp only at h
    split at h
    · rename_i ds hm
      have e := Option.some.inj h
      subst e
      obtain ⟨vs, hH, _⟩ := w.cell i _ a hm hc
      exact .inl (.base (.lst hH))
    · rename_i t kds hm
      have e := Option.some.inj h
      subst e
      cases t with
      | false =>
        obtain ⟨kvs, ds, hH, _⟩ := w.cell i _ a hm hc
        exact .inl (.base (.dK hH))
      | true =>
        obtain ⟨kvs, ds, hH, _⟩ := w.cell i _ a hm hc
        exact .inl (.base (.dT hH))
    · rename_i t kds hm
      have e := Option.some.inj h
      subst e
      obtain ⟨_, _, r⟩ := w.cell i _ a hm hc
      generalize hd : D.dct t kds = d at r
      cases r with
      | dK h1 _ _ _ _ =>
        rcases h1 with h1 | ⟨o, h1⟩
        · exact .inl (.base (.dK h1))
        · exact .inl (.fDict h1)
      | dT h1 _ _ _ _ =>
        rcases h1 with h1 | ⟨o, h1⟩
        · exact .inl (.base (.dT h1))
        · exact .inr ⟨_, _, _, rfl, h1, rfl⟩
      | _ => exact nomatch hd
    · rename_i ds hm
      have e := Option.some.inj h
      subst e
      obtain ⟨_, _, r⟩ := w.cell i _ a hm hc
      generalize hd : D.lst ds = d at r
      cases r with
      | lst hL _ =>
        rcases hL.1 with h1 | ⟨o, h1⟩
        · exact .inl (.base (.lst h1))
        · exact .inl (.base (.frz h1))
      | _ => exact nomatch hd
    · exact nomatch h
  | _ => exact nomatch h
def dIsi (T : String) : D → M D := fun d μ => match kindOf μ d with
  | some n => .ok (.bl (isiB n T)) μ
  | none => .no
section
variable {X : Cx} {W : WX} {a b c o e i value : Expr} {es : List Expr} {pos pos' p p2 : Pos} {ma mb mc mo mi mv : ME} {ml : ML} {k n : Nat}
/-- isinstance(e, T) -/
theorem se_isi {T : Str} {t : String} (hT : t ∈ kinds.drop 1) (he : SE X W e ma) (hm : X.mg "isinstance" = none) (hm2 : X.mg T = none) (hv2 : bootBuiltins T = some (.type t)) (hg : Gl X "isinstance" := by rfl) (hg2 : Gl X T := by rfl) (hn : T ≠ "__name__" := by decide) (hd : (T == ("__debug__" : Str)) = false := by decide)
    (hs : starEach [e, .Name T p2] X.env = (false, eval e X.env) :: starEach [.Name T p2] X.env := by rfl) (hpl : (backTo pos (starEach [.Name T p2] X.env)).any (·.1) = false := by rfl) :
    SE X W (.Call (.Name "isinstance" p) [e, .Name T p2] [] pos) (mUn (dIsi t) ma) := by
  have hb : PE X (.Name T p2) (tC (.ty t)) := pe_bltn (v := .ty t) hg2 hm2 hv2 rfl hn hd
  refine PE.imp (pe_callB call_isiY hg hm boot_isinstance (pa_cons he (pa_cons hb pa_nil) hs) (by decide) (by decide) hs hpl) fun σ H Q ⟨ρ, μ, env, w, re, p⟩ => ?_
  refine ⟨ρ, μ, env, w, re, Post.imp (post_bind p) (fun v H1 ⟨d, ρ1, μ1, e1, w1, r1, p1⟩ => ?_) fun _ _ _ z => z⟩
  unfold dIsi at p1
  cases hk : kindOf μ1 d with
  | none => rw [hk] at p1; exact False.elim p1
  | some n =>
    rw [hk] at p1
    exact ⟨v, .ty t, .type n, .type t, isiB n t, rfl, .ty t, kindOf_ok w1 r1 hk, kit_ty (isi_tab n (kindOf_in hk) t hT), Post.ok w1 p1 (.bl _)⟩
def mDFz (t : Bool) : ME := fun _ μ => .ok (.dct t []) μ
def mDCe (t : Bool) : ME := fun _ μ => .ok (.cel μ.length) (μ ++ [some (.dct t [])])
theorem se_dfz {t : Bool} : SE X W (.Dict [] [] pos) (mDFz t) := by
  cases t with
  | false => exact PE.imp pe_dnewK fun σ H Q ⟨ρ, μ, env, w, re, p⟩ q hq => p (.ref q) _ ρ (Exm.new w hq) (w.new hq) (.dK (kvs := []) (vs := []) (ds := []) (.inl upd_same) (w.fresh hq) rfl .nil rfl)
  | true => exact PE.imp pe_dnewT fun σ H Q ⟨ρ, μ, env, w, re, p⟩ q hq => p (.ref q) _ ρ (Exm.new w hq) (w.new hq) (.dT (kvs := []) (vs := []) (ds := []) (.inl upd_same) (w.fresh hq) rfl .nil rfl)
theorem se_dce {t : Bool} : SE X W (.Dict [] [] pos) (mDCe t) := by
  cases t with
  | false => exact PE.imp pe_dnewK fun σ H Q ⟨ρ, μ, env, w, re, p⟩ q hq => p (.ref q) _ (ρ.push q) (Exm.newC w hq) (w.newC hq ⟨[], [], upd_same, .nil, rfl⟩) (Rm.newC (d := .dct false []) w)
  | true => exact PE.imp pe_dnewT fun σ H Q ⟨ρ, μ, env, w, re, p⟩ q hq => p (.ref q) _ (ρ.push q) (Exm.newC w hq) (w.newC hq ⟨[], [], upd_same, .nil, rfl⟩) (Rm.newC (d := .dct true []) w)
def dGet2 (x k z : D) : M D := fun μ => match dctOf μ x with
  | some (t, kds) => if keyOk t k = true then .ok ((dget kds k).getD z) μ else .no
  | none => .no
def mGet2 (mo mk mz : ME) : ME := fun env μ => (mo env μ).bind fun x m1 => match dctOf m1 x with
  | some _ => (mk env m1).bind fun k m2 => (mz env m2).bind fun z => dGet2 x k z
  | none => .no
theorem dctOf_isD {x : V} {d : D} {z : Bool × List (D × D)} (w : Wd K mg H ρ μ) (r : Rm K mg H ρ μ x d) (h : dctOf μ d = some z) : ∃ a, x = .ref a ∧ IsD H a := by
  obtain ⟨t, kds⟩ := z
  obtain ⟨a, e, hR⟩ := dctOf_rd w r h
  rcases hR with ⟨_, kvs, ds, h1, _⟩ | ⟨_, kvs, ds, h1, _⟩
  · exact ⟨a, e, .inl ⟨kvs, h1⟩⟩
  · exact ⟨a, e, .inr ⟨kvs, h1⟩⟩
theorem se_get2 {f : Expr} {mz : ME} {apos cpos : Pos} (hr : RmG k X.A) (ho : SE X W o mo) (he : SE X W e mi) (hf : SE X W f mz) (m : M2 X o "get" apos e f cpos := by exact ⟨rfl, rfl, rfl, rfl⟩) : SE X W (.Call (.Attribute o "get" apos) [e, f] [] cpos) (mGet2 mo mi mz) := by
  refine PE.imp (pe_dget2 (by have := hr.un; omega) ho he hf m) fun σ H Q ⟨ρ, μ, env, w, re, p⟩ => ?_
  refine ⟨ρ, μ, env, w, re, Post.imp (post_bind p) (fun v H1 ⟨d, ρ1, μ1, e1, w1, r1, p1⟩ => ?_) fun _ _ _ z => z⟩
  cases hd : dctOf μ1 d with
  | none => rw [hd] at p1; exact False.elim p1
  | some z =>
    rw [hd] at p1
    obtain ⟨a, ea, hD⟩ := dctOf_isD w1 r1 hd
    refine ⟨a, ea, hD, ρ1, μ1, env, w1, re.mono e1, Post.imp (post_bind p1) (fun v2 H2 ⟨d2, ρ2, μ2, e2, w2, r2, p2⟩ => ?_) fun _ _ _ z => z⟩
    refine ⟨ρ2, μ2, env, w2, (re.mono e1).mono e2, Post.imp (post_bind p2) (fun v3 H3 ⟨d3, ρ3, μ3, e3, w3, r3, p3⟩ => ?_) fun _ _ _ z => z⟩
    unfold dGet2 at p3
    cases hd3 : dctOf μ3 d with
    | none => rw [hd3] at p3; exact False.elim p3
    | some z3 =>
      obtain ⟨t, kds⟩ := z3
      rw [hd3] at p3
      dsimp only at p3
      by_cases hk : keyOk t d2 = true
      · rw [if_pos hk] at p3
        obtain ⟨a', ov, ea', g, g1, g2⟩ := dctOf_get w3 ((r1.mono e2.x).mono e3.x) (r2.mono e3.x) hd3 hk
        have eaa : a' = a := V.ref.inj (ea'.symm.trans ea)
        subst eaa
        refine ⟨ov, g, ?_⟩
        cases ov with
        | none =>
          rw [g2 rfl] at p3
          exact Post.ok w3 p3 r3
        | some v0 =>
          obtain ⟨e0, h1, h2⟩ := g1 v0 rfl
          rw [h1] at p3
          exact Post.ok w3 p3 h2
      · rw [if_neg hk] at p3
        exact False.elim p3
def repD (xs : List D) (n : Int) : List D := (List.replicate n.toNat xs).flatten
def dRep (k : List D → M D) : D → D → M D := fun a b μ => match celL μ a, b with
  | some (_, xs), .int n => if -(2 ^ 63) ≤ n ∧ n < 2 ^ 63 ∧ xs.length * n.toNat ≤ lim then k (repD xs n) μ else .no
  | _, _ => .no
theorem RL.rep {Lv : Addr → Prop} {cs : List Addr} {vs : List V} {ds : List D} (r : RL K mg H Lv cs vs ds) : ∀ n : Nat, RL K mg H Lv cs (List.replicate n vs).flatten (List.replicate n ds).flatten
  | 0 => .nil
  | n + 1 => by
    rw [List.replicate_succ, List.replicate_succ, List.flatten_cons, List.flatten_cons]
    exact r.append (r.rep n)
theorem m_rep {k : List D → M D} (hk : NewK k) : OpM K mg rRep (dRep k) := by
  intro H ρ μ x y a b Q E w rx ry p
  unfold dRep at p
  split at p
  · rename_i j xs n h
    by_cases hc : -(2 ^ 63) ≤ n ∧ n < 2 ^ 63 ∧ xs.length * n.toNat ≤ lim
    · rw [if_pos hc] at p
      obtain ⟨l, ws, e1, e2, hcc, hm, hH, rl⟩ := celL_ok w rx h
      cases ry
      refine ⟨l, n, ws, e1, rfl, hH, hc.1, hc.2.1, ?_, ?_⟩
      · rw [rl.length]
        exact lim_line hc.2.2
      · exact hk _ _ _ _ _ _ _ _ _ w (rl.rep n.toNat) p
    · rw [if_neg hc] at p
      exact False.elim p
  · exact False.elim p
theorem rgV_rel {Lv : Addr → Prop} {cs : List Addr} {lo hi : Int} : RL K mg H Lv cs (rgV lo hi) (rangeL lo hi) := by
  have key : ∀ l : List Nat, RL K mg H Lv cs (l.map fun i => V.int (lo + (i : Nat))) (l.map fun i => D.int (lo + (i : Nat))) := by
    intro l
    induction l with
    | nil => exact .nil
    | cons a l ih => exact .cons (.int _) ih
  exact key _
def dLrg (k : List D → M D) : List D → M D := fun ds μ => match ds with
  | [.int n] => if -(2 ^ 62) ≤ n ∧ n < 2 ^ 62 ∧ n.toNat ≤ lim then k (rangeL 0 n) μ else .no
  | [.int a, .int b] => if -(2 ^ 62) ≤ a ∧ a < 2 ^ 62 ∧ -(2 ^ 62) ≤ b ∧ b < 2 ^ 62 ∧ (b - a).toNat ≤ lim then k (rangeL a b) μ else .no
  | _ => .no
theorem se_lrg1 {k : List D → M D} {p0 : Pos} (hk : NewK k) (hc : X.calm = true) (hm : X.mg "list" = none) (hm2 : X.mg "range" = none) (ha : SE X W a ma) (hg : Gl X "list" := by rfl) (hg2 : Gl X "range" := by rfl)
    (na : starEach [a] X.env = (false, eval a X.env) :: starEach [] X.env := by rfl) (na2 : starEach [.Call (.Name "range" p) [a] [] p2] X.env = (false, eval (.Call (.Name "range" p) [a] [] p2) X.env) :: starEach [] X.env := by rfl) :
    SE X W (.Call (.Name "list" p0) [.Call (.Name "range" p) [a] [] p2] [] pos) (mCall (dLrg k) (mCons ma mNil)) := by
  refine PE.imp (pe_listRg hc hg hm (prg_1 hg2 hm2 ha na) na2) fun σ H Q ⟨ρ, μ, env, w, re, p⟩ => ?_
  refine ⟨ρ, μ, env, w, re, ?_⟩
  cases h1 : ma env μ with
  | no => unfold mCall mCons at p; rw [h1] at p; exact False.elim p
  | ex c x m => unfold mCall mCons at p; rw [h1] at p; exact p
  | ok d m1 =>
    intro v H1 ρ1 e1 w1 r1
    unfold mCall mCons at p
    rw [h1] at p
    have p1 : Post X.K X.mg (dLrg k [d] m1) H1 ρ1 m1 Q (fun c od H' => W c od σ H') := Post.base e1 p
    cases r1 with
    | int n =>
      unfold dLrg at p1
      dsimp only at p1
      by_cases hcc : -(2 ^ 62) ≤ n ∧ n < 2 ^ 62 ∧ n.toNat ≤ lim
      · rw [if_pos hcc] at p1
        have hl := hcc.2.2
        unfold lim at hl
        exact ⟨n, rfl, ⟨by decide, by decide, hcc.1, hcc.2.1, by rw [Int.sub_zero]; omega⟩, hk _ _ _ _ _ _ _ _ _ w1 rgV_rel p1⟩
      · rw [if_neg hcc] at p1
        exact False.elim p1
    | _ => exact False.elim p1
def sPar3 (i j l : Nat) (ml : ML) : MS := fun env μ => (ml env μ).st env fun ds m => match ds with
  | [x, y, z] => .nx (((env.set i (some x)).set j (some y)).set l (some z)) m
  | _ => .no
theorem s_par3 {i j l : Nat} {x y z : Str} {px py pz pt pt2 : Pos} {kt k2 : Nat} (ha : SA X W [a, b, c] ml)
    (h : ∀ ta, PA X [a, b, c] ta → PS X (.Assign [.Tuple [.Name x px, .Name y py, .Name z pz] kt pt] (.Tuple [a, b, c] k2 pt2) pos) (tPar3 i j l ta)) :
    SS X W (.Assign [.Tuple [.Name x px, .Name y py, .Name z pz] kt pt] (.Tuple [a, b, c] k2 pt2) pos) (sPar3 i j l ml) := by
  refine PS.imp (h _ ha) fun Dn σ H ⟨ρ, μ, env, w, re, p⟩ => ?_
  refine ⟨ρ, μ, env, w, re, PostL.imp (postL_st re p) (fun v H1 ⟨ds, ρ1, μ1, e1, w1, re1, r1, p1⟩ => ?_) fun _ _ _ z => z⟩
  cases r1 with
  | nil => exact False.elim p1
  | cons ra t =>
    cases t with
    | nil => exact False.elim p1
    | cons rb t =>
      cases t with
      | nil => exact False.elim p1
      | cons rc t =>
        cases t with
        | nil => exact ⟨_, _, _, rfl, p1 _ H1 ρ1 Exm.refl w1 (((re1.set i ra).set j rb).set l rc)⟩
        | cons _ _ => exact False.elim p1
end
end
end CL

namespace CL
open PySem L2 PySem.Spec PyProof.Rows
section
variable {X : Cx} {W : WX} {a b c e : Expr} {es : List Expr} {pos p : Pos} {ma mb : ME} {ml : ML} {k n : Nat}
theorem un64 {A : Around} (hr : RmG k A) : A.units + 64 < cLine := by
  have := hr.un
  omega
theorem inD_in {σ : L2.St} {H : Hp} {Q : VK} (h : tM X.K X.mg W (mBin (dInD false) ma mb) σ H Q) : tDIn (tM X.K X.mg W ma) (tM X.K X.mg W mb) σ H Q := by
  obtain ⟨ρ, μ, env, w, re, p⟩ := h
  refine ⟨ρ, μ, env, w, re, Post.imp (post_bind p) (fun v H1 ⟨d, ρ1, μ1, e1, w1, r1, p1⟩ => ?_) fun _ _ _ z => z⟩
  refine ⟨ρ1, μ1, env, w1, re.mono e1, Post.imp (post_bind p1) (fun v2 H2 ⟨d2, ρ2, μ2, e2, w2, r2, p2⟩ => ?_) fun _ _ _ z => z⟩
  unfold dInD at p2
  cases hx : dctOf μ2 d2 with
  | none => rw [hx] at p2; exact False.elim p2
  | some z =>
    obtain ⟨t, kds⟩ := z
    rw [hx] at p2
    dsimp only at p2
    split at p2
    · rename_i hk
      obtain ⟨a', o, ea, g, g1, g2⟩ := dctOf_get w2 r2 (r1.mono e2.x) hx hk
      have eo : o.isSome = (dget kds d).isSome := by
        cases o with
        | none => rw [g2 rfl]; rfl
        | some vv =>
          obtain ⟨dd, h1, _⟩ := g1 vv rfl
          rw [h1]
          rfl
      refine ⟨a', o, ea, g, ?_⟩
      rw [eo]
      exact Post.ok w2 p2 (.bl _)
    · exact False.elim p2
theorem notinD_in {σ : L2.St} {H : Hp} {Q : VK} (h : tM X.K X.mg W (mBin (dInD true) ma mb) σ H Q) : tDNotIn (tM X.K X.mg W ma) (tM X.K X.mg W mb) σ H Q := by
  obtain ⟨ρ, μ, env, w, re, p⟩ := h
  refine ⟨ρ, μ, env, w, re, Post.imp (post_bind p) (fun v H1 ⟨d, ρ1, μ1, e1, w1, r1, p1⟩ => ?_) fun _ _ _ z => z⟩
  refine ⟨ρ1, μ1, env, w1, re.mono e1, Post.imp (post_bind p1) (fun v2 H2 ⟨d2, ρ2, μ2, e2, w2, r2, p2⟩ => ?_) fun _ _ _ z => z⟩
  unfold dInD at p2
  cases hx : dctOf μ2 d2 with
  | none => rw [hx] at p2; exact False.elim p2
  | some z =>
    obtain ⟨t, kds⟩ := z
    rw [hx] at p2
    dsimp only at p2
    split at p2
    · rename_i hk
      obtain ⟨a', o, ea, g, g1, g2⟩ := dctOf_get w2 r2 (r1.mono e2.x) hx hk
      have eo : o.isSome = (dget kds d).isSome := by
        cases o with
        | none => rw [g2 rfl]; rfl
        | some vv =>
          obtain ⟨dd, h1, _⟩ := g1 vv rfl
          rw [h1]
          rfl
      refine ⟨a', o, ea, g, ?_⟩
      rw [eo]
      exact Post.ok w2 p2 (.bl _)
    · exact False.elim p2
theorem bval_in {m : ME} {σ : L2.St} {H : Hp} {Q : Bool → Hp → Prop} (h : tMB X.K X.mg W (bVal m) σ H Q) : tM X.K X.mg W m σ H (fun x H1 => ∃ k, x = .bl k ∧ Q k H1) := by
  obtain ⟨ρ, μ, env, w, re, p⟩ := h
  refine ⟨ρ, μ, env, w, re, Post.imp (post_bindB p) (fun v H1 ⟨d, ρ1, μ1, e1, w1, r1, p1⟩ => ?_) fun _ _ _ z => z⟩
  cases r1 with
  | bl t => exact ⟨t, rfl, p1 H1 ρ1 Exm.refl w1⟩
  | _ => exact False.elim p1
theorem PT.or {t t' : TT} (h : PT X e t) (h' : PT X e t') : PT X e (fun σ H Q => t σ H Q ∨ t' σ H Q) := ⟨fun pins s σ H Q I q => by
  rcases q with q | q
  · exact h.run pins s σ H Q I q
  · exact h'.run pins s σ H Q I q⟩
theorem op_in {r : R2} {g : D → D → M D} {σ : L2.St} {H : Hp} {Q : VK} (hg : OpM X.K X.mg r g) (h : tM X.K X.mg W (mBin g ma mb) σ H Q) : tOp r (tM X.K X.mg W ma) (tM X.K X.mg W mb) σ H Q := by
  obtain ⟨ρ, μ, env, w, re, p⟩ := h
  refine ⟨ρ, μ, env, w, re, Post.imp (post_bind p) (fun v H1 ⟨d, ρ1, μ1, e1, w1, r1, p1⟩ => ?_) fun _ _ _ z => z⟩
  refine ⟨ρ1, μ1, env, w1, re.mono e1, Post.imp (post_bind p1) (fun v2 H2 ⟨d2, ρ2, μ2, e2, w2, r2, p2⟩ => ?_) fun _ _ _ z => z⟩
  exact hg H2 ρ2 μ2 v v2 d d2 _ _ w2 (r1.mono e2.x) r2 p2
theorem dIn_or {neg : Bool} {σ : L2.St} {H : Hp} {Q : VK} (h : tM X.K X.mg W (mBin (dIn neg) ma mb) σ H Q) : tM X.K X.mg W (mBin (dInD neg) ma mb) σ H Q ∨ tM X.K X.mg W (mBin (inOf neg) ma mb) σ H Q :=
  bin_or (c := fun a b μ => (dctOf μ b).isSome) (fun a b μ hc => by unfold dIn; obtain ⟨z, hz⟩ := Option.isSome_iff_exists.mp hc; rw [hz]) (fun a b μ hc => by unfold dIn; cases hz : dctOf μ b with
    | none => rfl
    | some z => rw [hz] at hc; exact nomatch hc) h
theorem sb_in (hr : RmG k X.A) (ha : SE X W a ma) (hb : SE X W b mb) (hm : behindInMarks .In b = false := by rfl) : ST X W (.Compare a [.In] [b] pos) (bVal (mBin (dIn false) ma mb)) := by
  refine PT.imp (PT.or (pt_cmp (pc_din (hu_of hr.toRoom) ha hb) hm) (pt_cmpR (op_inA hr) ha hb hm)) fun σ H Q h => ?_
  rcases dIn_or (bval_in h) with h | h
  · exact .inl (inD_in h)
  · exact .inr (op_in m_in h)
theorem sb_notin (hr : RmG k X.A) (ha : SE X W a ma) (hb : SE X W b mb) (hm : behindInMarks .NotIn b = false := by rfl) : ST X W (.Compare a [.NotIn] [b] pos) (bVal (mBin (dIn true) ma mb)) := by
  refine PT.imp (PT.or (pt_cmp (pc_dnotin (hu_of hr.toRoom) ha hb) hm) (pt_cmpR (op_notInA hr) ha hb hm)) fun σ H Q h => ?_
  rcases dIn_or (bval_in h) with h | h
  · exact .inl (notinD_in h)
  · exact .inr (op_in m_notin h)
/-- ==, != : texts by themselves -/
def dEqA : D → D → M D := fun a b μ => match a, b with
  | .str x, .str y => .ok (.bl (decide (x = y))) μ
  | a, b => dEq a b μ
def dNeA : D → D → M D := fun a b μ => match a, b with
  | .str x, .str y => .ok (.bl (!decide (x = y))) μ
  | a, b => dNe a b μ
def rEqA (K : PySem.W.Frag) : R2 := fun x y H Q => rEq x y H Q ∨ rEqD K x y H Q
def rNeA (K : PySem.W.Frag) : R2 := fun x y H Q => rNe x y H Q ∨ rNeD K x y H Q
theorem op_eqA (hu : X.A.units + 64 < cLine) : OpR X (compareOp .Eq) (rEqA X.K) := OpR.or op_eq (op_eqD hu)
theorem op_neA (hu : X.A.units + 64 < cLine) : OpR X (compareOp .NotEq) (rNeA X.K) := OpR.or op_ne (op_neD hu)
theorem dec_strs {x y : Str} : decide (V.str x = V.str y) = decide (x = y) := by
  by_cases h : x = y
  · subst h
    simp
  · rw [decide_eq_false h, decide_eq_false (fun z => h (V.str.inj z))]
theorem m_eqA {K : PySem.W.Frag} {mg : Str → Option Value} : OpM K mg (rEqA K) dEqA := by
  intro H ρ μ x y a b Q E w rx ry p
  unfold dEqA at p
  split at p
  · cases rx
    cases ry
    exact .inl ⟨rfl, by rw [dec_strs]; exact Post.ok w p (.bl _)⟩
  · exact .inr (m_eq H ρ μ x y _ _ Q E w rx ry p)
theorem m_neA {K : PySem.W.Frag} {mg : Str → Option Value} : OpM K mg (rNeA K) dNeA := by
  intro H ρ μ x y a b Q E w rx ry p
  unfold dNeA at p
  split at p
  · cases rx
    cases ry
    exact .inl ⟨rfl, by rw [dec_strs]; exact Post.ok w p (.bl _)⟩
  · exact .inr (m_ne H ρ μ x y _ _ Q E w rx ry p)
end
end CL

set_option maxHeartbeats 4000000
namespace PySem
namespace XKw
open PySem.W PySem.Calls PyProof.Rows PySem.HandSPX
open Builtin Builtin.ObjectAttr
section
variable {M : Model} {A : Around} {E : Value → Shared → Prop} {h : Heap} {g : Array GenState} {d : Drawn} {t : Nat} {os : OsState}
variable {nm q : Str} {C N : Addr} {bs bm bmB : List Value} {hdct : Bool} {sn : List Str} {sub : List Value} {ab : Bool} {col : Option Bool} {dd : Option Addr} {k0 k1 k2 k3 k5 : Option Value} {B newId initId : String}
theorem new_check (FB : ExcBaseFacts B newId initId bmB) (hB : bm.contains (.type B) = true ∧ bm.contains (.type "AttributeError") = false ∧ bm.contains (.type "NameError") = false) {us : List Value} {kw : List (Str × Value)} {Q : Unit → Shared → Prop}
    (hC : h.get? C = some (excClassObj nm q C N bs bm hdct sn sub ab col dd k0 k1 k2 k3 k5 newId)) (hq : Q () ⟨h, g, d, t, os⟩) : wpAny M A (checkBuiltinCall newId ⟨.ref C :: us, kw⟩) Q E ⟨h, g, d, t, os⟩ := by
  have c1 : (Value.ref C :: bm).contains (.type B) = true := by
    rw [List.contains_cons, hB.1, Bool.or_true]
  have c2 := FB.noStar
  simp only [checkBuiltinCall, FB.newKind, FB.newSplit, FB.newRow]
  repeat (first
    | refine wpAny_loadPart_at hC ?_
    | (refine wpAny_isSubtype_exc hC ?_; rw [c1])
    | refine wpAny_staticBase_exc hC ?_
    | refine wpAny_madeBy_exc hC ?_
    | simp only [bne_self_eq_false, Bool.false_eq_true, if_false]
    | wp_step)
  exact hq
end
section
variable {prog : Program} {w : World} {A : Around} {E : Value → Shared → Prop} {R : Result → Shared → Prop} {h : Heap} {g : Array GenState} {d : Drawn} {t : Nat} {os : OsState}
variable {nm q : Str} {C N : Addr} {bs bm bmB : List Value} {hdct : Bool} {sn : List Str} {sub : List Value} {ab : Bool} {col : Option Bool} {dd : Option Addr} {k0 k1 k2 k3 k5 : Option Value} {B newId initId : String}
theorem new_kw (FB : ExcBaseFacts B newId initId bmB) (hB : bm.contains (.type B) = true ∧ bm.contains (.type "AttributeError") = false ∧ bm.contains (.type "NameError") = false) {us : List Value} {kw : List (Str × Value)}
    (hC : h.get? C = some (excClassObj nm q C N bs bm hdct sn sub ab col dd k0 k1 k2 k3 k5 newId))
    (hq : R (.ok (.ret (.ref (h.objs.size + 1)))) ⟨(h.push (W.kdv_tup us)).push (excO C h.objs.size), g, d, t, os⟩) (hz : us.length ≤ sizeLine) :
    codeAny (model prog w) A (.builtin newId ⟨.ref C :: us, kw⟩) R ⟨h, g, d, t, os⟩ := by
  have c0 := FB.ends
  have c1 : (Value.ref C :: bm).contains (.type B) = true := by
    rw [List.contains_cons, hB.1, Bool.or_true]
  have c2 : (Value.ref C :: bm).contains (.type "AttributeError") = false := by
    rw [List.contains_cons, hB.2.1] <;> rfl
  have c3 : (Value.ref C :: bm).contains (.type "NameError") = false := by
    rw [List.contains_cons, hB.2.2] <;> rfl
  refine codeAny_builtinAt FB.entry ?_
  unfold Builtin.«BaseException.__new__»
  refine wpAt_bind ?_
  show wpAt _ _ _ (stack >>= _) _ _ _
  refine wpAt_bind (wpAt_stack fun p below => wpAt_of_wpAny ?_)
  wp_walk
  refine wpAt_of_wpAny ?_
  rw [FB.owner]
  repeat (first
    | with_reducible refine wpAny_madeHere_exc FB.canon hC ?_
    | with_reducible refine wpAny_loadPart_at hC ?_
    | (with_reducible refine wpAny_isSubtype_exc hC ?_; first | rw [c1] | rw [c2] | rw [c3])
    | wp_step)
  show R _ _
  rw [Heap.size_push]
  exact hq
theorem type_kw (FB : ExcBaseFacts B newId initId bmB) (hB : bm.contains (.type B) = true ∧ bm.contains (.type "AttributeError") = false ∧ bm.contains (.type "NameError") = false) {us : List Value} {kw : List (Str × Value)} {fI : Addr} {Q : Fin → Shared → Prop}
    (hC : h.get? C = some (excClassObj nm q C N bs bm hdct sn sub ab col dd k0 k1 k2 k3 k5 newId))
    (hi : W.Looks (model prog w) h (typeLookup (.ref C) "__init__") (some (.ref fI))) (hb : ∀ self, W.Looks (model prog w) h (bindSpecial (.ref fI) self) (.ref fI, [self])) (hz : us.length ≤ sizeLine)
    (hq : codeAny (model prog w) A (.call (.ref fI) ⟨.ref (h.objs.size + 1) :: us, kw⟩)
      (fun r s1 => match r with | .ok (.ret v) => v = .none ∧ Q (.done (.ret (.ref (h.objs.size + 1)))) s1 | .ok _ => False | .error e => E e s1)
      ⟨(h.push (W.kdv_tup us)).push (excO C h.objs.size), g, d, t, os⟩) :
    wpAny (model prog w) A (Builtin.«type.__call__» ⟨.ref C :: us, kw⟩) Q E ⟨h, g, d, t, os⟩ := by
  repeat (first
    | with_reducible refine wpAny_loadPart_at hC ?_
    | with_reducible refine wpAny_madeBy_exc hC ?_
    | wp_step)
  refine codeAny_call_builtin_code (Code.quiet_builtin _ FB.quiet) (new_check FB hB hC ?_)
  refine new_kw FB hB hC ?_ hz
  show wpAny _ _ _ _ _ _
  have kk : ∀ b o, h.get? b = some o → ((h.push (W.kdv_tup us)).push (excO C h.objs.size)).get? b = some o := fun b o e =>
    Heap.get?_push_of_some _ (Heap.get?_push_of_some _ e)
  have C1 := kk _ _ hC
  have E1 : ((h.push (W.kdv_tup us)).push (excO C h.objs.size)).get? (h.objs.size + 1) = some (excO C h.objs.size) := by
    heap_get
  have cC : (Value.ref C :: bm).contains (.ref C) = true := by
    simp
  have i1 := hi.keeps kk
  have b1 := (hb (.ref (h.objs.size + 1))).keeps kk
  unfold isInstance
  repeat (first
    | with_reducible refine wpAny_loadPart_at E1 ?_
    | (with_reducible refine wpAny_isSubtype_exc C1 ?_; rw [cC])
    | wp_step)
  show wpAny _ _ (typeLookup (.ref C) _) _ _ _
  refine i1.at ?_
  refine wpAny_holding (wpAny_bind (b1.at ?_))
  refine wpAny_bind (wpAny_call (codeAny_mono hq fun r s1 z => ?_))
  cases r with
  | error e => exact z
  | ok fl =>
    cases fl with
    | ret v =>
      obtain ⟨rfl, z⟩ := z
      first
        | exact wpAny_pure (wpAny_pure z)
        | (wp_walk; first | exact z | skip)
    | next => exact z.elim
    | brk => exact z.elim
    | cont => exact z.elim
theorem call_kw (FB : ExcBaseFacts B newId initId bmB) (hB : bm.contains (.type B) = true ∧ bm.contains (.type "AttributeError") = false ∧ bm.contains (.type "NameError") = false) {us : List Value} {kw : List (Str × Value)} {fI : Addr}
    (hC : h.get? C = some (excClassObj nm q C N bs bm hdct sn sub ab col dd k0 k1 k2 k3 k5 newId))
    (hi : W.Looks (model prog w) h (typeLookup (.ref C) "__init__") (some (.ref fI))) (hb : ∀ self, W.Looks (model prog w) h (bindSpecial (.ref fI) self) (.ref fI, [self])) (hz : us.length ≤ sizeLine)
    (hq : codeAny (model prog w) (A.under (.builtin "type.__call__" ⟨.ref C :: us, kw⟩)) (.call (.ref fI) ⟨.ref (h.objs.size + 1) :: us, kw⟩) (W.InitBack (h.objs.size + 1) R)
      ⟨(h.push (W.kdv_tup us)).push (excO C h.objs.size), g, d, t, os⟩) :
    codeAny (model prog w) A (.call (.ref C) ⟨us, kw⟩) R ⟨h, g, d, t, os⟩ := by
  have l1 := tc_lookup
  have l2 := tc_bind (.ref C)
  have ty : (⟨h, g, d, t, os⟩ : Shared).TypeIs (.ref C) "type" := ⟨_, hC, rfl⟩
  refine codeAny_of_tree ?_
  show wpAny _ _ (callAny (.ref C) _) _ _ _
  repeat (any_goals (first
    | assumption
    | with_reducible refine wpAny_loadPart_at hC ?_
    | wp_step))
  refine ⟨rfl, ?_⟩
  refine codeAny_call_builtin_at (Code.quiet_builtin _ (by decide +kernel)) entry_typeCall (wpAny_check_type_call_sub hC (type_kw FB hB hC hi hb hz ?_))
  refine codeAny_mono hq fun r s1 z => ?_
  cases r with
  | error e => exact z
  | ok fl => cases fl <;> exact z
end
end XKw
end PySem

set_option maxHeartbeats 4000000
namespace PySem
namespace XKw
open PySem.W PySem.Calls PyProof.Rows PySem.HandSPX
open Builtin Builtin.ObjectAttr
section
variable {prog : Program} {w : World} {A : Around} {E : Value → Shared → Prop} {R : Result → Shared → Prop} {hp : Heap} {g : Array GenState} {d : Drawn} {t : Nat} {os : OsState} {B : String} {bmB : List Value}
theorem osa_x {K : W.Frag} {name : Str} {tk : Tok} {v : Value} {x C : Addr} {fv : Array Value} (SF : StoreFacts B bmB "object.__setattr__" "object") (X : K.In hp) (hx : hp.get? x = some { cls := .ref C, data := .fields fv })
    (ov : excOver K C bmB = true) (hd : W.hasDictIn K C = true) (ha : W.findIn K (.ref C) name = some none)
    (hq : ∀ h1 tk1 dx, (∀ b o, b ≠ x → hp.get? b = some o → h1.get? b = some o) → hp.objs.size ≤ dx → dx ≠ x → h1.get? x = some { cls := .ref C, dict := some dx, data := .fields fv } →
      h1.Ns1 dx (fun y => if y = name then some v else none) → R (.ok (.ret .none)) ⟨h1, g, d, tk1, os⟩) :
    codeAny (model prog w) A (.call (.builtin "object.__setattr__") ⟨[.ref x, .str name tk, v], []⟩) R ⟨hp, g, d, t, os⟩ := by
  have I : W.InstAt hp x { cls := .ref C, data := .fields fv } C none := ⟨hx, rfl, rfl, trivial⟩
  obtain ⟨cd, hcd, hh⟩ := W.any_some hd
  have ne : x ≠ hp.objs.size := Nat.ne_of_lt (Heap.lt_size hx)
  have Lc : W.Looks (model prog w) hp (classData C) cd := W.looks_clsIn X hcd
  refine osa_openX (s := ⟨hp, g, d, t, os⟩) SF X I ov (L2.NoAttr.taker ha) fun b => ?_
  show wpAny _ _ (storeInOwnDict (.ref x) (.ref C) (.str name tk) name v b) _ _ _
  obtain ⟨nm, bs, mro, ns, qn, hdi, sn, sb, ab, col, del⟩ := cd
  dsimp only at hh
  subst hh
  unfold storeInOwnDict ownDictForStores
  repeat (first
    | with_reducible refine store_in_new ?_ ?_
    | with_reducible refine wpAny_loadPart_at hx ?_
    | with_reducible refine Lc.at ?_
    | wp_step)
  · exact ⟨_, #[], _, (Heap.get?_update_ne _ _ _ _ ne.symm).trans (Heap.get?_push_at rfl rfl), rfl, fun e he => absurd he (by simp), fun _ => rfl⟩
  · intro h1 tk1 hn1 hs
    have hx1 : (hp.push { cls := .type "dict", data := .dict #[] }).get? x = some { cls := .ref C, data := .fields fv } :=
      Heap.get?_push_of_some _ hx
    refine hq h1 tk1 hp.objs.size (fun b o hb ho => ?_) (Nat.le_refl _) ne.symm ?_ hn1
    · exact (hs.2 b (Nat.ne_of_lt (Heap.lt_size ho))).trans
        ((Heap.get?_update_ne _ _ _ _ hb).trans (Heap.get?_push_of_some _ ho))
    · exact (hs.2 x ne).trans
        (Heap.get?_update_self _ hx1 rfl)
end
end XKw
end PySem
namespace CL
open PySem L2 PySem.Spec PyProof.Rows
/-- what an own exception class right over the built-in base with the mro bmB has -/
structure XC (K : PySem.W.Frag) (C : Addr) (bmB : List Value) (newId : String) : Prop where
  init : PySem.W.excInitIn K C bmB newId = true
  over : PySem.W.excOver K C bmB = true
  sa : PySem.W.findIn K (.ref C) "__setattr__" = some (some (.builtin "object.__setattr__"))
  kC : PySem.W.keepIn K (.ref C) = true
  hd : PySem.W.hasDictIn K C = true
  ga : PySem.W.findIn K (.ref C) "__getattribute__" = some (some (.builtin "BaseException.__getattribute__"))
  gg : PySem.W.findIn K (.ref C) "__getattr__" = some none
  sub : PySem.W.subIn K (.ref C) (.type "BaseException") = some true
  ha : PySem.W.findIn K (.ref C) "__class__" = some (some (.builtin "object.__class__"))
  hn : PySem.W.specialIn K (.builtin "object.__class__") "__get__" = some (some (.builtin "getset_descriptor.__get__"))
  ht : PySem.W.takesIn K (.builtin "object.__class__") = some true
  hm : PySem.W.mroIn K C (.type "object") = some true
def xcB (K : PySem.W.Frag) (C : Addr) (bmB : List Value) (newId : String) : Bool :=
  PySem.W.excInitIn K C bmB newId && (PySem.W.excOver K C bmB && (decide (PySem.W.findIn K (.ref C) "__setattr__" = some (some (.builtin "object.__setattr__"))) && (PySem.W.keepIn K (.ref C) && (PySem.W.hasDictIn K C &&
  (decide (PySem.W.findIn K (.ref C) "__getattribute__" = some (some (.builtin "BaseException.__getattribute__"))) && (decide (PySem.W.findIn K (.ref C) "__getattr__" = some none) && (decide (PySem.W.subIn K (.ref C) (.type "BaseException") = some true) &&
  (decide (PySem.W.findIn K (.ref C) "__class__" = some (some (.builtin "object.__class__"))) && (decide (PySem.W.specialIn K (.builtin "object.__class__") "__get__" = some (some (.builtin "getset_descriptor.__get__"))) &&
  (decide (PySem.W.takesIn K (.builtin "object.__class__") = some true) && decide (PySem.W.mroIn K C (.type "object") = some true)))))))))))
theorem xcB_ok {K : PySem.W.Frag} {C : Addr} {bmB : List Value} {newId : String} (h : xcB K C bmB newId = true) : XC K C bmB newId := by
  unfold xcB at h
  simp only [Bool.and_eq_true, decide_eq_true_eq] at h
  obtain ⟨a, b, c, d, e, f, g, i, j, k, l, m⟩ := h
  exact ⟨a, b, c, d, e, f, g, i, j, k, l, m⟩
section
variable {X : Cx} {pins : List (Addr × Obj)} {σ : L2.St} {H : Hp} {s : Shared} {a C dx : Addr} {f : Str} {y : V} {u : Value} {Q : Unit → Shared → Prop} {E : Value → Shared → Prop} {A : Around} {B newId : String} {bmB : List Value}
theorem ost_x (SF : StoreFacts B bmB "object.__setattr__" "object") (T : XC X.K C bmB newId) (I : Inv X pins σ H s) (e : H a = some (exo a C none)) (hno : PySem.W.findIn X.K (.ref C) f = some none) (ry : RelV y u)
    (h : ∀ dx s1, H dx = none → dx ≠ a → Inv X pins σ (upd (upd H dx (exd dx [(f, y)])) a (exo a C (some dx))) s1 → Q () s1) : wpAny (model X.prog X.w) A (setAttr (.ref a) f u) Q E s := by
  obtain ⟨t1, ho⟩ := exo_at I.hok e
  obtain ⟨hp, g, d, t, os⟩ := s
  refine PySem.W.set_plain I.kIn (ox := { cls := .ref C, dict := none, data := .fields #[.ref t1, .none, .none, .none, .bool false, .none] }) (od := none) ⟨ho, rfl, rfl, trivial⟩ T.sa ?_
  refine PySem.XKw.osa_x SF I.kIn ho T.over T.hd hno (fun h1 tk1 dx k dn dne hx hn => ?_)
  have nd0 : H dx = none := I.hok.fresh dn
  have nd : ∀ {b : Addr} {o : Obj}, hp.get? b = some o → b ≠ dx := fun {b o} q =>
    Nat.ne_of_lt (Nat.lt_of_lt_of_le (Heap.lt_size q) dn)
  have na : ∀ {b : Addr}, H b = none → b ≠ a := fun {b} n z => by
    rw [z, e] at n
    exact nomatch n
  have U : Un X.fs [] H (upd (upd H dx (exd dx [(f, y)])) a (exo a C (some dx))) hp h1 :=
    { keep := fun b o q n _ _ => k b o (na n) q, slot := fun b o q n _ _ => ⟨o.slots, k b o (na n) q⟩
      free := fun b o q n _ => by
        rw [upd_ne (na n)]
        rw [upd_ne (nd q)]
        exact n
      there := fun b o q _ => by
        by_cases hb : b = a
        · subst hb
          exact ⟨_, hx⟩
        · exact ⟨o, k b o hb q⟩
      tups := fun b xs q => by
        rw [upd_ne (at_ne e q exo_tup)]
        rw [upd_ne (ne_of_none q nd0)]
        exact q
      frzs := fun b o v q => by
        rw [upd_ne (at_ne e q exo_frz)]
        rw [upd_ne (ne_of_none q nd0)]
        exact q
      tbls := fun b ps q => ⟨#[], by
        rw [upd_ne (at_ne e q exo_tbl)]
        rw [upd_ne (ne_of_none q nd0), q]
        simp⟩ }
  refine h dx _ nd0 dne (I.un (t' := tk1) U fun b o q => ?_)
  by_cases hb : b = a
  · subst hb
    rw [upd_same] at q
    have eo := Option.some.inj q
    subst eo
    exact exo_ok hx
  · rw [upd_ne hb] at q
    by_cases hd : b = dx
    · subst hd
      rw [upd_same] at q
      have eo := Option.some.inj q
      subst eo
      exact exd_ok hn (relO_put (fs := []) ry fun g => True.intro)
    · rw [upd_ne hd] at q
      refine (I.hok b o q).stay (fun c v hc z => k c v ?_ z) (fun c hc => ?_) (fun c xs hc => ?_)
      · rcases hc with hc | hc
        · rw [hc]
          exact hb
        · exact at_ne e hc exo_own
      · rw [upd_ne (at_ne e hc exo_own)]
        rw [upd_ne (ne_of_none hc nd0)]
        exact hc
      · rw [upd_ne (at_ne e hc exo_tup)]
        rw [upd_ne (ne_of_none hc nd0)]
        exact hc
end
/-- self.f = y as the whole of __init__ -/
def tOstX (B newId : String) (bmB : List Value) (K : PySem.W.Frag) (f : Str) (to te : TE) : TS := fun Dn σ H => te σ H fun y H1 => to σ H1 fun x H2 => ∃ a C : Addr, x = .ref a ∧ XC K C bmB newId ∧ PySem.W.findIn K (.ref C) f = some none ∧
  H2 a = some (exo a C none) ∧ ∀ dx, H2 dx = none → dx ≠ a → Dn.nx σ (upd (upd H2 dx (exd dx [(f, y)])) a (exo a C (some dx)))
section
variable {X : Cx} {o e : Expr} {to te : TE} {f : Str} {p' pos : Pos} {B newId : String} {bmB : List Value}
theorem ps_ostX (SF : StoreFacts B bmB "object.__setattr__" "object") (ho : PE X o to) (he : PE X e te) (hs : swapsWith e (some (.Attribute o f p')) pos.line X.env = pure false := by rfl) : PS X (.Assign [.Attribute o f p'] e pos) (tOstX B newId bmB X.K f to te) := by
  refine ⟨fun pins s σ H D I h => ?_⟩
  refine plainObj_wpAny_Assign_Attribute (thn (he.run pins s σ H _ I h) fun v s1 hh => ?_) hs
  obtain ⟨y, H1, I1, r1, q1⟩ := hh
  refine thn (ho.run pins s1 σ H1 _ I1 q1) fun u s2 hh2 => ?_
  obtain ⟨x, H2, I2, r2, a, C, ex, T, hno, ea, q⟩ := hh2
  subst ex
  obtain rfl : u = Value.ref a := r2
  exact ost_x SF T I2 ea hno r1 fun dx s3 n ne J => ⟨σ, _, J, q dx n ne⟩
end
end CL

set_option maxHeartbeats 4000000
namespace CL
open PySem L2 PySem.Spec PyProof.Rows
def spX (K : PySem.W.Frag) (bmB : List Value) (newId : String) (f : Str) : Sp := fun vs H Q _ => ∃ (a C : Addr) (y : V), vs = [.ref a, y] ∧ XC K C bmB newId ∧ PySem.W.findIn K (.ref C) f = some none ∧ H a = some (exo a C none) ∧
  ∀ dx, H dx = none → dx ≠ a → Q .non (upd (upd H dx (exd dx [(f, y)])) a (exo a C (some dx)))
theorem initX_ok {P : Program} {w : World} {K : PySem.W.Frag} {mg : Str → Option Value} {base : Heap} {qual : Str} {params : Arguments} {scope : Scope} {fI : Addr} {fd : FuncData} {f : Str} {p1 p2 p3 pos : Pos} {B newId : String} {bmB : List Value} (SF : StoreFacts B bmB "object.__setattr__" "object")
    (F : FunD K "__init__" qual params [.Assign [.Attribute (.Name "self" p1) f p2] (.Name f p3) pos] scope [] [] fI fd) (S : FnScope ["self", f] ["self", f] scope)
    (h0 : scope.names.lookup ("self" : Str) = some NameKind.local) (h1 : scope.names.lookup f = some NameKind.local) (hd : (f == ("__debug__" : Str)) = false) (hcd : (f == ("__classdict__" : Str)) = false)
    (hs : ∀ env : PySem.Env, swapsWith (.Name f p3) (some (.Attribute (.Name "self" p1) f p2)) pos.line env = pure false) :
    FnOk P w K mg base (CXn P w) 1 fI fd ["self", f] (spX K bmB newId f) := by
  refine F.ok S (fun vs H Q E h => ?_) (fun cdv A outer s H vs Q E hr h => ⟨tOstX B newId bmB K f (tVar 0) (tVar 1), ?_, ?_⟩)
  · obtain ⟨a, C, y, rfl, _⟩ := h
    rfl
  · exact pss_one (ps_ostX SF (pe_var rfl (.inl h0) (by decide) (by decide)) (pe_var rfl (.inl h1) hd hcd) (hs _))
  · obtain ⟨a, C, y, rfl, T, hno, ea, q⟩ := h
    exact ⟨y, rfl, .ref a, rfl, a, C, rfl, T, hno, ea, q⟩
/-- an own exception class c whose __init__ stores its one argument in f -/
structure ClX (P : Program) (w : World) (K : PySem.W.Frag) (mg : Str → Option Value) (base : Heap) (c f : Str) (n : Nat) (ks : List Str) : Prop where
  ex : ∃ (C fI : Addr) (fd : FuncData) (B newId initId : String) (bmB bm1 : List Value), mg c = some (.ref C) ∧ (ExcBaseFacts B newId initId bm1 ∧ bmB.contains (.type B) = true ∧ bmB.contains (.type "AttributeError") = false ∧ bmB.contains (.type "NameError") = false) ∧ XC K C bmB newId ∧ PySem.W.findIn K (.ref C) "__init__" = some (some (.ref fI)) ∧ PySem.W.typeIn K (.ref fI) = some (.type "function") ∧
    PySem.W.findIn K (.ref C) f = some none ∧ FnOk P w K mg base (CXn P w) 1 fI fd ["self", f] (spX K bmB newId f) ∧ KBn K fd ["self", f] (n + 1) ks (fun us ws => us ++ ws) (fun vs zs => vs ++ zs)
theorem kbX {K : PySem.W.Frag} {x qual : Str} {params : Arguments} {body : List Stmt} {scope : Scope} {f : Addr} {fd : FuncData} {ps : List Str} (F : FunD K x qual params body scope [] [] f fd) (n : Nat) (ks : List Str)
    (h : ∀ (kV doc pm : Value) (an : Option Addr) (cdv ct : Value) (us ws : List Value), us.length = n → ws.length = ks.length → bindArgs (PySem.W.fnOf x qual params body scope .none kV doc pm an cdv ct) ⟨us, ks.zip ws⟩ = pure (ps.zip (us ++ ws))) :
    KBn K fd ps n ks (fun us ws => us ++ ws) (fun vs zs => vs ++ zs) := by
  obtain ⟨oc, od, dV, kV, doc, pm, an, cdv, ct, osl, rfl, lk, hcd, hD1, hK⟩ := F.ex
  rcases hD1 with ⟨_, rfl⟩ | ⟨e, _⟩
  · exact ⟨fun s us ws X l1 l2 => BindsTo.of_eq (h kV doc pm an cdv ct us ws l1 l2), fun r1 r2 => r1.append r2⟩
  · exact absurd rfl e
theorem upd_back {H : Hp} {a b : Addr} {o1 o2 o3 : HO} (hne : b ≠ a) : upd (upd (upd H a o1) b o2) a o3 = upd (upd H b o2) a o3 := by
  funext c
  by_cases hc : c = a
  · rw [hc, upd_same, upd_same]
  · rw [upd_ne hc, upd_ne hc]
    by_cases hb : c = b
    · rw [hb, upd_same, upd_same]
    · rw [upd_ne hb, upd_ne hb, upd_ne hc]
def gExc (c f : Str) : List D → M D := fun ds μ => match ds with
  | [y] => .ok (.exc c [(f, y)]) μ
  | _ => .no
section
variable {X : Cx} {W : WX} {o e : Expr} {es : List Expr} {kws : List Keyword} {ks : List Str} {p pos p2 : Pos} {k n : Nat} {ml mk : ML} {mo : ME} {c f : Str} {cs : List Str}
theorem se_exc (cl : ClX X.prog X.w X.K X.mg X.base c f n ks) (hr : RmG k X.A) (hk2 : 2 ≤ k) (tk : Takes X W) (hc : SC X W es kws ks ml mk)
    (hg : Gl X c := by rfl) (hdb : (c == ("__debug__" : Str)) = false := by decide) : SE X W (.Call (.Name c p) es kws pos) (mCallG n ks.length (fun ds es => ds ++ es) (gExc c f) ml mk) := by
  refine ⟨fun pins s σ H Q I h => ?_⟩
  obtain ⟨C, fI, fd, B, newId, initId, bmB, bm1, hm, ⟨FB, q1, q2, q3⟩, T, hI, tI, hno, FO, kb⟩ := cl.ex
  refine wpAny_Call_Name_kw (ld_glob I hg hm ?_ hdb)
  obtain ⟨ρ, μ, env, w, re, pp⟩ := h
  refine hc.run pos pins s σ H (.ref C) [] _ T.kC I (args_in w re pp fun vs zs H2 ds es ρ2 μ2 e2 w2 r2 z2 p2 => ?_)
  obtain ⟨⟨l1, l2⟩, p3⟩ := withLen_ok p2
  intro us ws s2 I2 ru rz
  have v1 : vs.length = n := r2.length.trans l1
  have v2 : zs.length = ks.length := z2.length.trans l2
  have rA := r2.append z2
  cases hyy : ds ++ es with
  | nil => rw [hyy] at p3; exact False.elim p3
  | cons dy rest =>
    cases rest with
    | cons _ _ => rw [hyy] at p3; exact False.elim p3
    | nil =>
      rw [hyy] at p3 rA
      obtain ⟨y, ey, ry⟩ : ∃ y, vs ++ zs = [y] ∧ Rm X.K X.mg H2 ρ2 μ2 y dy := by
        generalize hv : vs ++ zs = l at rA
        cases rA with
        | cons r t =>
          cases t
          exact ⟨_, rfl, r⟩
      obtain ⟨nm, N, qn, bs, bm, hdct, sn, sub, ab, col, dd, k0, k1, k2, k3, k5, hC, hT⟩ := PySem.W.excInit_of I2.kIn T.init
      obtain ⟨hp, g, dr, tk2, os⟩ := s2
      have hsz : hp.objs.size ≤ hp.objs.size + 1 := Nat.le_succ _
      have hn : H2 (hp.objs.size + 1) = none := I2.hok.fresh hsz
      have kk : ∀ b o, hp.get? b = some o → ((hp.push (PySem.W.kdv_tup us)).push (PySem.HandSPX.excO C hp.objs.size)).get? b = some o := fun b o e =>
        Heap.get?_push_of_some _ (Heap.get?_push_of_some _ e)
      have hget : ((hp.push (PySem.W.kdv_tup us)).push (PySem.HandSPX.excO C hp.objs.size)).get? (hp.objs.size + 1) = some (PySem.HandSPX.excO C hp.objs.size) := by
        heap_get
      have I3 : Inv X pins σ (upd H2 (hp.objs.size + 1) (exo (hp.objs.size + 1) C none)) ⟨(hp.push (PySem.W.kdv_tup us)).push (PySem.HandSPX.excO C hp.objs.size), g, dr, tk2, os⟩ :=
        I2.laid (t' := tk2) kk hsz (exo_ok hget)
      have rf : Vals ((V.ref (hp.objs.size + 1) :: vs) ++ zs) ((Value.ref (hp.objs.size + 1) :: us) ++ ws) := kb.rel (.cons rfl ru) rz
      have sp : spX X.K bmB newId f ((V.ref (hp.objs.size + 1) :: vs) ++ zs) (upd H2 (hp.objs.size + 1) (exo (hp.objs.size + 1) C none)) (fun v H3 => v = .non ∧ Q (.ref (hp.objs.size + 1)) H3) (WE W σ) := by
        refine ⟨_, C, y, by rw [List.cons_append, ey], T, hno, upd_same, fun dx hdx hne => ⟨rfl, ?_⟩⟩
        rw [upd_back hne]
        have hd2 : H2 dx = none := by
          rw [upd_ne hne] at hdx
          exact hdx
        have eA : Exm H2 ρ2 μ2 (upd H2 dx (exd dx [(f, y)])) ρ2 μ2 := Exm.new w2 hd2
        have wA := w2.new (o := exd dx [(f, y)]) hd2
        have hn2 : (upd H2 dx (exd dx [(f, y)])) (hp.objs.size + 1) = none := (upd_ne (fun z => hne z.symm)).trans hn
        have eB : Exm (upd H2 dx (exd dx [(f, y)])) ρ2 μ2 (upd (upd H2 dx (exd dx [(f, y)])) (hp.objs.size + 1) (exo (hp.objs.size + 1) C (some dx))) ρ2 μ2 := Exm.new wA hn2
        have wB := wA.new (o := exo (hp.objs.size + 1) C (some dx)) hn2
        refine p3 (.ref (hp.objs.size + 1)) _ ρ2 (eA.trans eB) wB ?_
        exact .exc (fs := [(f, y)]) (vs := [y]) (ds := [dy]) upd_same (w2.fresh hn) ((upd_ne hne).trans upd_same) (w2.fresh hd2) hm rfl (.cons ((ry.mono eA.x).mono eB.x) .nil) rfl
      have hus : us.length ≤ sizeLine := by
        have e1 := ru.length
        have e3 := congrArg List.length ey
        rw [List.length_append] at e3
        rw [sizeLine_eq, ← e1]
        simp only [List.length_cons, List.length_nil] at e3
        omega
      show wpAny _ _ (call (.ref C) ([] ++ us) (ks.zip ws)) _ _ _
      rw [List.nil_append]
      refine wpAny_call (PySem.XKw.call_kw FB ⟨(hT _).trans q1, (hT _).trans q2, (hT _).trans q3⟩ hC (PySem.W.looks_findIn I2.kIn hI) (fun self => PySem.W.bind_fn I2.kIn self tI) hus
        (codeAny_mono (FO.run _ X.stack _ _ ⟨Value.ref (hp.objs.size + 1) :: us, ks.zip ws⟩ _ _ _ (WE W σ) ((hr.mono hk2).make C us (ks.zip ws)) (I3.env0.make C us (ks.zip ws)) (kb.to _ (Value.ref (hp.objs.size + 1) :: us) ws I3.kIn (by rw [List.length_cons, ← ru.length, v1]) (rz.length.symm.trans v2)) rf sp) fun out s3 z => ?_))
      cases out with
      | error x => exact passAt tk σ pins _ _ x s3 I3 z
      | ok fl =>
        cases fl with
        | ret u =>
          obtain ⟨v, H4, I4, rv, ev, q⟩ := I3.after z
          subst ev
          exact ⟨rv, ⟨V.ref (hp.objs.size + 1), H4, I4, rfl, q⟩⟩
        | next => exact False.elim z
        | brk => exact False.elim z
        | cont => exact False.elim z
end
end CL

namespace CL
open PySem PySem.F
abbrev keTail : List Value := [.type "KeyError", .type "LookupError", .type "Exception", .type "BaseException", .type "object"]
theorem keStore : StoreFacts "KeyError" keTail "object.__setattr__" "object" :=
  { mro := by kernel_rfl
    slot := .of (owner := "object") (n := "__setattr__") (by
      rw [typeLookup_type, builtinLookup_eq_fast]
      kernel_rfl) (by decide +kernel) (by decide +kernel) (by decide +kernel)
      (by first | exact .inl (by decide +kernel) | exact .inr (by decide +kernel)) (by
      rw [isSubtype_type]
      kernel_rfl)
    entry := entry_object_sa
    kind := by decide +kernel
    split := by decide +kernel
    hasOwner := by decide +kernel
    args := fun a b c => by
      unfold argsOk
      kernel_rfl
    passes := fun _ => by kernel_rfl }
end CL

set_option maxHeartbeats 4000000
namespace CL
open PySem L2 PySem.Spec PyProof.Rows
section
variable {X : Cx} {W : WX} {o e : Expr} {p pos p2 : Pos} {k n : Nat} {me : ME} {f : Str} {cs : List Str}
theorem pe_xfld {te : TE} (he : PE X e te) (hb : attributeBase e f X.env (eval e X.env) = eval e X.env := by rfl) : PE X (.Attribute e f pos) (fun σ H Q => te σ H fun x H1 => ∃ (a C dx : Addr) (fs : List (Str × V)) (v : V) (bmB : List Value) (newId : String),
    x = .ref a ∧ H1 a = some (exo a C (some dx)) ∧ H1 dx = some (exd dx fs) ∧ XC X.K C bmB newId ∧ PySem.W.findIn X.K (.ref C) f = some none ∧ fs.lookup f = some v ∧ Q v H1) := by
  refine ⟨fun pins s σ H Q I h => ?_⟩
  refine attr_of hb (thn (he.run pins s σ H _ I h) fun u s1 hh => ?_)
  obtain ⟨x, H1, I1, rx, a, C, dx, fs, v, bmB, newId, ex, ea, ed, T, hno, l, q⟩ := hh
  subst ex
  obtain rfl : u = Value.ref a := rx
  obtain ⟨t1, ho⟩ := exo_at I1.hok ea
  obtain ⟨mA, hns, rel⟩ := exd_at I1.hok ed
  obtain ⟨od, hod, hl⟩ := lookIn_ns hns
  obtain ⟨u2, hu, ru⟩ := RelO.some_of (v := v) (o := mA f) (by rw [← l]; exact rel f)
  have J : PySem.W.InstAt s1.heap a { cls := .ref C, dict := some dx, data := .fields #[.ref t1, .none, .none, .none, .bool false, .none] } C (some od) := ⟨ho, rfl, rfl, hod⟩
  exact PySem.HandSPX.exc_get I1.kIn J T.ga T.gg T.sub (PySem.W.findObj_own T.hd hno rfl (by rw [hl, hu])) (handed_of ru) ⟨v, H1, I1.tok _, ru, q⟩
def dFldX (cs : List Str) (f : Str) : D → M D := fun d μ => match d with
  | .exc c fds => if cs.contains c = true then (match fds.lookup f with
    | some x => .ok x μ
    | none => .no) else .no
  | _ => .no
/-- own exception classes without an attribute f of their own -/
structure XcA (K : PySem.W.Frag) (mg : Str → Option Value) (c f : Str) : Prop where
  ex : ∃ (C : Addr) (bmB : List Value) (newId : String), mg c = some (.ref C) ∧ XC K C bmB newId ∧ PySem.W.findIn K (.ref C) f = some none
theorem se_fldX (hcs : ∀ c ∈ cs, XcA X.K X.mg c f) (ho : SE X W o me) (hb : attributeBase o f X.env (eval o X.env) = eval o X.env := by rfl) : SE X W (.Attribute o f pos) (mUn (dFldX cs f) me) := by
  refine PE.imp (pe_xfld ho hb) fun σ H Q ⟨ρ, μ, env, w, re, p⟩ => ?_
  refine ⟨ρ, μ, env, w, re, Post.imp (post_bind p) (fun v H1 ⟨d, ρ1, μ1, e1, w1, r1, p1⟩ => ?_) fun _ _ _ z => z⟩
  cases r1 with
  | @exc a C dx fs vs ds c fds h1 n1 h2 n2 g z rl q =>
    unfold dFldX at p1
    dsimp only at p1
    by_cases hc : cs.contains c = true
    · rw [if_pos hc] at p1
      subst z
      cases hl : fds.lookup f with
      | none => rw [hl] at p1; exact False.elim p1
      | some x =>
        rw [hl] at p1
        rw [q] at hl
        obtain ⟨v, hv, rv⟩ := (fld_rel rl).1 x hl
        obtain ⟨C', bmB, newId, hm, T, hno⟩ := (hcs c (by simpa using hc)).ex
        have ec : C' = C := by
          have := hm.symm.trans g
          injection this with this
          injection this
        subst ec
        exact ⟨a, _, dx, fs, v, bmB, newId, rfl, h1, h2, T, hno, hv, Post.ok w1 p1 rv⟩
    · rw [if_neg hc] at p1
      exact False.elim p1
  | _ => exact False.elim p1
def rIsiE (K : PySem.W.Frag) : List V → Hp → VK → Prop := fun xs H Q => ∃ (a C dx : Addr) (fs : List (Str × V)) (c : V) (u : Value) (b : Bool) (bmB : List Value) (newId : String), xs = [.ref a, c] ∧ ClsV c u ∧ H a = some (exo a C (some dx)) ∧ H dx = some (exd dx fs) ∧
  XC K C bmB newId ∧ PySem.W.kitOne K (.ref C) u = some b ∧ Q (.bl b) H
theorem call_isiE : CallR X (.builtin "isinstance") (rIsiE X.K) := by
  intro pins s σ H xs us Q I r h
  obtain ⟨a, C, dx, fs, c, u, b, bmB, newId, rfl, k, ea, ed, T, e, q⟩ := h
  obtain ⟨u1, u2, rfl, r1, r2⟩ := vals2 r
  have e2 := k.eq r2
  subst e2
  cases (show u1 = Value.ref a from r1)
  obtain ⟨t1, ho⟩ := exo_at I.hok ea
  obtain ⟨mA, hns, rel⟩ := exd_at I.hok ed
  obtain ⟨od, hod, hl⟩ := lookIn_ns hns
  have J : PySem.W.InstAt s.heap a { cls := .ref C, dict := some dx, data := .fields #[.ref t1, .none, .none, .none, .bool false, .none] } C (some od) := ⟨ho, rfl, rfl, hod⟩
  have hcl : (PySem.W.clsIn X.K C).isSome = true := by
    obtain ⟨cd, hc, _⟩ := PySem.W.any_some T.hd
    rw [hc]
    rfl
  exact PySem.W.kia_one (PySem.W.kitx_exc hcl T.ga T.gg T.sub T.ha T.hn T.ht T.hm) I.kIn J e (fun z => nomatch z) fun tk => ⟨.bl b, H, I.tok tk, rfl, q⟩
def dIsiX (cs : List Str) (tab : Str → Bool) : D → M D := fun d μ => match d with
  | .exc c _ => if cs.contains c = true then .ok (.bl (tab c)) μ else .no
  | _ => .no
theorem isiX_in {tab : Str → Bool} {c : V} {u : Value} (kc : ClsV c u) (hcs : ∀ c ∈ cs, ∃ (C : Addr) (bmB : List Value) (newId : String), X.mg c = some (.ref C) ∧ XC X.K C bmB newId ∧ PySem.W.kitOne X.K (.ref C) u = some (tab c))
    {σ : L2.St} {H : Hp} {Q : VK} (h : tM X.K X.mg W (mUn (dIsiX cs tab) me) σ H Q) : tCB (rIsiE X.K) (tCons (tM X.K X.mg W me) (tCons (tC c) tNil)) σ H Q := by
  obtain ⟨ρ, μ, env, w, re, p⟩ := h
  refine ⟨ρ, μ, env, w, re, Post.imp (post_bind p) (fun v H1 ⟨d, ρ1, μ1, e1, w1, r1, p1⟩ => ?_) fun _ _ _ z => z⟩
  cases r1 with
  | @exc a C dx fs vs ds c0 fds h1 n1 h2 n2 g z rl q =>
    unfold dIsiX at p1
    dsimp only at p1
    by_cases hc : cs.contains c0 = true
    · rw [if_pos hc] at p1
      obtain ⟨C', bmB, newId, hm, T, hk⟩ := hcs c0 (by simpa using hc)
      have ec : C' = C := by
        have := hm.symm.trans g
        injection this with this
        injection this
      subst ec
      exact ⟨a, _, dx, fs, c, u, tab c0, bmB, newId, rfl, kc, h1, h2, T, hk, Post.ok w1 p1 (.bl _)⟩
    · rw [if_neg hc] at p1
      exact False.elim p1
  | _ => exact False.elim p1
/-- isinstance(e, C), C an own class -/
theorem se_isiXO {T : Str} {C0 : Addr} {tab : Str → Bool} (he : SE X W e me) (hm : X.mg "isinstance" = none) (hm2 : X.mg T = some (.ref C0)) (hcs : ∀ c ∈ cs, ∃ (C : Addr) (bmB : List Value) (newId : String), X.mg c = some (.ref C) ∧ XC X.K C bmB newId ∧ PySem.W.kitOne X.K (.ref C) (.ref C0) = some (tab c))
    (hg : Gl X "isinstance" := by rfl) (hg2 : Gl X T := by rfl) (hd : (T == ("__debug__" : Str)) = false := by decide) (hs : starEach [e, .Name T p2] X.env = (false, eval e X.env) :: starEach [.Name T p2] X.env := by rfl)
    (hpl : (backTo pos (starEach [.Name T p2] X.env)).any (·.1) = false := by rfl) : SE X W (.Call (.Name "isinstance" p) [e, .Name T p2] [] pos) (mUn (dIsiX cs tab) me) :=
  PE.imp (pe_callB call_isiE hg hm boot_isinstance (pa_cons he (pa_cons (pe_glob (v := .ref C0) hg2 hm2 rfl hd) pa_nil) hs) (by decide) (by decide) hs hpl) fun σ H Q h => isiX_in (.own C0) hcs h
/-- isinstance(e, T), T a built-in class -/
theorem se_isiXB {T : Str} {t : String} {tab : Str → Bool} (he : SE X W e me) (hm : X.mg "isinstance" = none) (hm2 : X.mg T = none) (hv2 : bootBuiltins T = some (.type t)) (hcs : ∀ c ∈ cs, ∃ (C : Addr) (bmB : List Value) (newId : String), X.mg c = some (.ref C) ∧ XC X.K C bmB newId ∧ PySem.W.kitOne X.K (.ref C) (.type t) = some (tab c))
    (hg : Gl X "isinstance" := by rfl) (hg2 : Gl X T := by rfl) (hn : T ≠ "__name__" := by decide) (hd : (T == ("__debug__" : Str)) = false := by decide) (hs : starEach [e, .Name T p2] X.env = (false, eval e X.env) :: starEach [.Name T p2] X.env := by rfl)
    (hpl : (backTo pos (starEach [.Name T p2] X.env)).any (·.1) = false := by rfl) : SE X W (.Call (.Name "isinstance" p) [e, .Name T p2] [] pos) (mUn (dIsiX cs tab) me) :=
  PE.imp (pe_callB call_isiE hg hm boot_isinstance (pa_cons he (pa_cons (pe_bltn (v := .ty t) hg2 hm2 hv2 rfl hn hd) pa_nil) hs) (by decide) (by decide) hs hpl) fun σ H Q h => isiX_in (.ty t) hcs h
end
mutual
inductive Dq (K : PySem.W.Frag) (H : Hp) : V → PyData → Prop
  | non : Dq K H .non .none
  | bl (b : Bool) : Dq K H (.bl b) (.bool b)
  | int (i : Int) : Dq K H (.int i) (.int i)
  | str (x : Str) : Dq K H (.str x) (.str x)
  | lst {a : Addr} {xs : List V} {ds : List PyData} : SqL K H a xs → DqAll K H xs ds → Dq K H (.ref a) (.list ds)
  | tup {a : Addr} {xs : List V} {ds : List PyData} : SqT K H a xs → DqAll K H xs ds → Dq K H (.ref a) (.tuple ds)
  | d0 {a : Addr} : Rd H a (.dK []) ∨ Rd H a (.dT []) → Dq K H (.ref a) (.dict [])
inductive DqAll (K : PySem.W.Frag) (H : Hp) : List V → List PyData → Prop
  | nil : DqAll K H [] []
  | cons {v : V} {vs : List V} {d : PyData} {ds : List PyData} : Dq K H v d → DqAll K H vs ds → DqAll K H (v :: vs) (d :: ds)
end
/-- the objects that a reading names: lists, and dicts that are not sys.modules -/
def Apt (h : Heap) (as : List Addr) : Prop := ∀ a ∈ as, (∃ o, h.get? a = some o ∧ o.cls = .type "list") ∨ a ≠ sysModules
section
variable {X : Cx} {pins : List (Addr × Obj)} {σ : L2.St} {H : Hp} {s : Shared}
mutual
theorem Dq.reads (I : Inv X pins σ H s) : ∀ (d : PyData) (v : V) (u : Value), Dq X.K H v d → RelV v u → ∃ as, Reads s.heap u d as ∧ Apt s.heap as
  | .none, _, _, h, r => by
    cases h
    cases r
    exact ⟨_, Reads.none, fun a ha => absurd ha (by simp)⟩
  | .bool b, _, _, h, r => by
    cases h
    cases r
    exact ⟨_, Reads.bool b, fun a ha => absurd ha (by simp)⟩
  | .int i, _, _, h, r => by
    cases h
    obtain ⟨t, rfl⟩ := r
    exact ⟨_, Reads.int i t, fun a ha => absurd ha (by simp)⟩
  | .str x, _, _, h, r => by
    cases h
    obtain ⟨t, rfl⟩ := r
    exact ⟨_, Reads.str x t, fun a ha => absurd ha (by simp)⟩
  | .list ds, _, _, h, r => by
    cases h with
    | lst hs ha =>
      cases r
      obtain ⟨its, rv, ⟨o, n, ho, hc, _, hd⟩, _⟩ := I.list hs
      obtain ⟨as, hr, hap⟩ := DqAll.reads I ds _ its ha rv
      refine ⟨_, Reads.list ho hc hd hr, fun b hb => ?_⟩
      rcases List.mem_cons.mp hb with e | hb
      · subst e
        exact .inl ⟨o, ho, hc⟩
      · exact hap b hb
  | .tuple ds, _, _, h, r => by
    cases h with
    | tup hs ha =>
      cases r
      obtain ⟨its, rv, ⟨o, ho, hc, n, hd⟩, _⟩ := I.tuple hs
      obtain ⟨as, hr, hap⟩ := DqAll.reads I ds _ its ha rv
      exact ⟨_, Reads.tuple ho hc hd hr, hap⟩
  | .dict kvs, _, _, h, r => by
    cases h with
    | d0 hd =>
      rename_i a
      cases r
      rcases hd with hd | hd
      · obtain ⟨hz, hne, vs, kv, dd⟩ := dk_rd I.hok hd
        cases kv
        obtain ⟨o, es, ep, ho, hx, hdat, _, hp, _⟩ := dd
        have he : es.toList = [] := by
          generalize es.toList = l at hp
          cases hp
          rfl
        refine ⟨_, Reads.dict (kvs := []) (as := []) (bs := []) ho hx.1 hdat (by rw [he]; exact .nil) (by rw [he]; exact .nil), fun b hb => ?_⟩
        have e : b = a := by simpa using hb
        subst e
        exact .inr (by simpa using hne)
      · obtain ⟨hz, hne, xs, kt, dd⟩ := dt_rd I.hok hd
        cases kt
        obtain ⟨o, es, ep, ho, hx, hdat, he, _⟩ := dd
        have he : es.toList = [] := he
        refine ⟨_, Reads.dict (kvs := []) (as := []) (bs := []) ho hx.1 hdat (by rw [he]; exact .nil) (by rw [he]; exact .nil), fun b hb => ?_⟩
        have e : b = a := by simpa using hb
        subst e
        exact .inr (by simpa using hne)
theorem DqAll.reads (I : Inv X pins σ H s) : ∀ (ds : List PyData) (vs : List V) (us : List Value), DqAll X.K H vs ds → Vals vs us → ∃ as, ReadsAll s.heap us ds as ∧ Apt s.heap as
  | [], _, _, h, r => by
    cases h
    cases r
    exact ⟨_, ReadsAll.nil, fun a ha => absurd ha (by simp)⟩
  | d :: ds, _, _, h, r => by
    cases h with
    | cons h1 h2 =>
      cases r with
      | cons r1 r2 =>
        obtain ⟨as, q1, a1⟩ := Dq.reads I d _ _ h1 r1
        obtain ⟨bs, q2, a2⟩ := DqAll.reads I ds _ _ h2 r2
        exact ⟨_, ReadsAll.cons q1 q2, fun b hb => (List.mem_append.mp hb).elim (a1 b) (a2 b)⟩
end
end
def rRepr (K : PySem.W.Frag) : List V → Hp → VK → Prop := fun xs H Q => ∃ (a : Addr) (p : PyData), xs = [V.ref a] ∧ Dq K H (.ref a) p ∧ p.showable = true ∧ p.depth ≤ 40 ∧ p.shown.length ≤ 1000000 ∧ Q (.str p.shown) H
def sysOk (K : PySem.W.Frag) : Bool := match K.lookup sysModules with
  | some o => o.cls == .type "dict"
  | none => false
theorem call_reprX {X : Cx} {k : Nat} (hr : RmG k X.A) (hsys : sysOk X.K = true) : CallR X (.builtin "repr") (rRepr X.K) := by
  intro pins s σ H xs us Q I r h
  obtain ⟨a, p, rfl, dq, hs, hd, hz, q⟩ := h
  obtain ⟨u, rfl, ru⟩ := vals1 r
  cases (show u = Value.ref a from ru)
  obtain ⟨as, rd, ap⟩ := Dq.reads I p _ _ dq rfl
  have no : sysModules ∉ as := fun z => by
    unfold sysOk at hsys
    cases e : X.K.lookup sysModules with
    | none => rw [e] at hsys; exact nomatch hsys
    | some o =>
      rw [e] at hsys
      have hc : o.cls = .type "dict" := eq_of_beq hsys
      rcases ap _ z with ⟨o2, h1, h2⟩ | h1
      · have e2 := I.kIn _ _ e
        rw [h1] at e2
        have e3 := Option.some.inj e2
        rw [e3, hc] at h2
        exact absurd h2 (by decide +kernel)
      · exact h1 rfl
  have hsz : p.shown.length ≤ sizeLine := Nat.le_trans hz (by rw [sizeLine_eq]; decide)
  refine PySem.repr_of_reads' rd hs (fun _ => no) hr.gd (by have := hr.un; omega) (fun b o e => e) (fun h1 u1 tk hk => ?_) hsz
  exact ⟨.str p.shown, H, I.kept hk, ⟨_, rfl⟩, q⟩
/-- as the library's data, for repr -/
def pq (μ : Mem) : Nat → D → Option PyData
  | 0, _ => none
  | n + 1, d => match d with
    | .non => some .none
    | .bl b => some (.bool b)
    | .int i => some (.int i)
    | .str x => some (.str x)
    | .lst ds => (ds.mapM (pq μ n)).map .list
    | .tup ds => (ds.mapM (pq μ n)).map .tuple
    | .dct _ [] => some (.dict [])
    | .cel i => match μ[i]? with
      | some (some (.lst ds)) => (ds.mapM (pq μ n)).map .list
      | _ => none
    | _ => none
section
variable {K : PySem.W.Frag} {mg : Str → Option Value} {H : Hp} {ρ : Lc} {μ : Mem} {E : XK}
theorem mapMq_ok {f : D → Option PyData} (hf : ∀ v d p, Rm K mg H ρ μ v d → f d = some p → Dq K H v p) : ∀ {vs : List V} {ds : List D} {ps : List PyData}, RLm K mg H ρ μ vs ds → ds.mapM f = some ps → DqAll K H vs ps
  | _, _, ps, .nil, h => by
    have e : ps = [] := by simpa using h.symm
    subst e
    exact .nil
  | _, _, ps, .cons (d := d) (ds := ds) r t, h => by
    rw [List.mapM_cons] at h
    cases h1 : f d with
    | none => rw [h1] at h; exact nomatch h
    | some q =>
      rw [h1] at h
      cases h2 : ds.mapM f with
      | none => rw [h2] at h; exact nomatch h
      | some qs =>
        rw [h2] at h
        have e : ps = q :: qs := (Option.some.inj h).symm
        subst e
        exact .cons (hf _ _ _ r h1) (mapMq_ok hf t h2)
theorem omap {α β : Type} {o : Option α} {f : α → β} {b : β} (h : o.map f = some b) : ∃ a, o = some a ∧ b = f a := by
  cases o with
  | none => exact nomatch h
  | some a => exact ⟨a, rfl, (Option.some.inj h).symm⟩
theorem pq_ok (w : Wd K mg H ρ μ) : ∀ (n : Nat) (v : V) (d : D) (p : PyData), Rm K mg H ρ μ v d → pq μ n d = some p → Dq K H v p
  | 0, _, _, _, _, h => nomatch h
  | n + 1, v, d, p, r, h => by
    have ih := pq_ok w n
    cases r with
    | non => have e := Option.some.inj h; subst e; exact .non
    | bl b => have e := Option.some.inj h; subst e; exact .bl b
    | int i => have e := Option.some.inj h; subst e; exact .int i
    | str x => have e := Option.some.inj h; subst e; exact .str x
    | lst hL rl =>
      obtain ⟨ps, h1, e⟩ := omap (show (List.mapM (pq μ n) _).map PyData.list = some p from h)
      subst e
      exact .lst hL.sq (mapMq_ok ih rl h1)
    | tup hT rl =>
      obtain ⟨ps, h1, e⟩ := omap (show (List.mapM (pq μ n) _).map PyData.tuple = some p from h)
      subst e
      exact .tup hT.sq (mapMq_ok ih rl h1)
    | dK h1 n1 z rl q =>
      rename_i a kvs vs ds kds
      cases kvs with
      | nil =>
        have e1 : kds = [] := q
        subst e1
        have e := Option.some.inj h
        subst e
        exact .d0 (.inl h1)
      | cons x kvs =>
        subst z
        cases rl with
        | cons _ _ =>
          subst q
          exact nomatch h
    | dT h1 n1 z rl q =>
      rename_i a kvs vs ds kds
      cases kvs with
      | nil =>
        have e1 : kds = [] := q
        subst e1
        have e := Option.some.inj h
        subst e
        exact .d0 (.inr h1)
      | cons x kvs =>
        subst z
        cases rl with
        | cons _ _ =>
          subst q
          exact nomatch h
    | @cel a i hc =>
      have h0 : (match μ[i]? with
        | some (some (.lst ds)) => (ds.mapM (pq μ n)).map PyData.list
        | _ => none) = some p := h
      cases hm : μ[i]? with
      | none => rw [hm] at h0; exact nomatch h0
      | some ob =>
        rw [hm] at h0
        cases ob with
        | none => exact nomatch h0
        | some d0 =>
          cases d0 with
          | lst ds =>
            obtain ⟨ps, h1, e⟩ := omap h0
            subst e
            obtain ⟨vs, hH, rl⟩ := w.cell i _ a hm hc
            exact .lst (.inl (.inl hH)) (mapMq_ok ih rl h1)
          | _ => exact nomatch h0
    | _ => exact nomatch h
/-- repr(x), x a list, a tuple or an empty dict -/
def dRepr : List D → M D := fun ds μ => match ds with
  | [x] => (match x with
    | .lst _ | .tup _ | .dct _ _ | .cel _ => (match pq μ 40 x with
      | some p => if p.showable = true ∧ p.depth ≤ 40 ∧ p.shown.length ≤ 1000000 then .ok (.str p.shown) μ else .no
      | none => .no)
    | _ => .no)
  | _ => .no
theorem m_repr : CallM K mg (rRepr K) dRepr := by
  intro H ρ μ vs ds Q E w rv p
  cases rv with
  | nil => exact False.elim p
  | cons r t =>
    cases t with
    | cons _ _ => exact False.elim p
    | nil =>
      rename_i v d
      have fin : ∀ a : Addr, v = .ref a → (match pq μ 40 d with
          | some p => if p.showable = true ∧ p.depth ≤ 40 ∧ p.shown.length ≤ 1000000 then Rs.ok (.str p.shown) μ else .no
          | none => .no) = dRepr [d] μ → rRepr K [v] H Q := by
        intro a ea e
        rw [← e] at p
        cases hp : pq μ 40 d with
        | none => rw [hp] at p; exact False.elim p
        | some pp =>
          rw [hp] at p
          dsimp only at p
          by_cases hc : pp.showable = true ∧ pp.depth ≤ 40 ∧ pp.shown.length ≤ 1000000
          · rw [if_pos hc] at p
            have dq := pq_ok w 40 v d pp r hp
            subst ea
            exact ⟨a, pp, rfl, dq, hc.1, hc.2.1, hc.2.2, Post.ok w p (.str _)⟩
          · rw [if_neg hc] at p
            exact False.elim p
      cases r with
      | lst _ _ => exact fin _ rfl rfl
      | tup _ _ => exact fin _ rfl rfl
      | dK _ _ _ _ _ => exact fin _ rfl rfl
      | dT _ _ _ _ _ => exact fin _ rfl rfl
      | cel _ => exact fin _ rfl rfl
      | _ => exact False.elim p
end
end CL

set_option maxHeartbeats 4000000
namespace CL
open PySem L2 PySem.Spec PyProof.Rows
abbrev AlX : Type := Bool × He.AlD
def addrX (n : Nat) (g : Addr → Option Obj) : List Addr := sysModules :: He.asD g n
/-- what no K may hold, so that the script stands apart; where sys.modules stands -/
def apartB (K : PySem.W.Frag) : Bool := K.all fun p => !(p.2.cls == .type "list")
def obsX (fa : List He.Fa) (fn : List He.DefD) (ow : PySem.W.Frag → Bool) (K : PySem.W.Frag) : AlX := (apartB K && ow K, He.obsD fa fn K)
def obsXG (n : Nat) (fa : List He.Fa) (fn : List He.DefD) (ow : PySem.W.Frag → Bool) (g : Addr → Option Obj) : AlX := obsX fa fn ow (He.frG g (addrX n g))
def hookX (n : Nat) (fa : List He.Fa) (fn : List He.DefD) (ow : PySem.W.Frag → Bool) : PySem.W.Hook where
  α := AlX
  obs := fun s => obsXG n fa fn ow s.heap.get?
  val := fun _ => (true, He.valD fn)
  says := fun _ h => ∃ K : PySem.W.Frag, K.In h ∧ apartB K = true ∧ ow K = true ∧ He.SaysD fa fn K
  of := fun w s e => by
    have e1 : (apartB _ && ow _) = true := congrArg Prod.fst e
    have e2 := Bool.and_eq_true_iff.mp e1
    exact ⟨_, He.frG_in, e2.1, e2.2, congrArg Prod.snd e⟩
  keeps := fun _ _ _ h k => by
    obtain ⟨K, hK, a, b, c⟩ := h
    exact ⟨K, PySem.W.Frag.In.keeps hK k, a, b, c⟩
theorem obsXG_eq {n : Nat} {fa : List He.Fa} {fn : List He.DefD} {ow : PySem.W.Frag → Bool} {g : Addr → Option Obj} {s : Shared} (h : ∀ a, g a = s.heap.get? a) : obsXG n fa fn ow g = (hookX n fa fn ow).obs s := by
  have e : g = s.heap.get? := funext h
  rw [e] <;> rfl
theorem lookup_mem {K : PySem.W.Frag} {a : Addr} {o : Obj} (h : K.lookup a = some o) : (a, o) ∈ K := by
  induction K with
  | nil => exact nomatch h
  | cons p K ih =>
    obtain ⟨b, u⟩ := p
    by_cases hb : (a == b) = true
    · simp only [List.lookup, hb] at h
      have e := Option.some.inj h
      have e2 := eq_of_beq hb
      subst e e2
      exact List.mem_cons_self
    · have hb' : (a == b) = false := by simpa using hb
      simp only [List.lookup, hb'] at h
      exact List.mem_cons_of_mem _ (ih h)
theorem apart_ok {K : PySem.W.Frag} (h : apartB K = true) {a : Addr} {o : Obj} (e : K.lookup a = some o) : o.cls ≠ .type "list" := fun z => by
  have q := List.all_eq_true.mp h _ (lookup_mem e)
  dsimp only at q
  rw [z] at q
  exact absurd q (by decide +kernel)
def scriptH (a : Addr) (vs : List Value) (ns : List Int) : Hp := fun b => if b = a then some (.frz { cls := .type "list", data := .seq vs.toArray } (.lst (ns.map V.int))) else none
theorem law_go {P : Program} {w : World} {K : PySem.W.Frag} {mg mb : Str → Option Value} {k : Nat} {fa a : Addr} {fd : FuncData} {x : Str} {sp : Sp} {s1 : Shared} {vs : List Value} {ns : List Int}
    (KX : K.In s1.heap) (ap : apartB K = true) (hns : s1.heap.Ns mainGlobals mg) (hb : s1.heap.Ns builtinsNs mb) (hbb : ∀ x : Str, x ≠ "__name__" → mb x = bootBuiltins x) (hlim : s1.heap.NoLimit) (hg : s1.gens = #[])
    (ha : s1.heap.get? a = some { cls := .type "list", data := .seq vs.toArray }) (hi : IntsAre vs ns) (hl : ns.length ≤ sizeLine) (hr : Room k callerA)
    (F : ∀ base : Heap, K.In base → base.Ns mainGlobals mg → FnG P w K mg base (CXn P w) k fa fd [x] sp) (hbind : ∀ (s : Shared) (u : Value), BindsTo s fd ⟨[u], []⟩ [(x, u)])
    (hsp : sp [.ref a] (scriptH a vs ns) (fun v _ => v = .bl true) fun _ _ _ => False) :
    codeAny (model P w) callerA (.call (.ref fa) ⟨[.ref a], []⟩) (fun r s2 => r = .ok (.ret (.bool true)) ∧ OldK s1.heap s2.heap ∧ s2.os = s1.os ∧ AllBare s2.gens) s1 := by
  have rv := vals_ints hi
  have hk : K.lookup a = none := by
    cases e : K.lookup a with
    | none => rfl
    | some o =>
      have e2 := KX a o e
      rw [ha] at e2
      have e3 := Option.some.inj e2
      exact absurd (by rw [← e3]) (apart_ok ap e)
  have only : ∀ {b : Addr} {u : HO}, scriptH a vs ns b = some u → b = a ∧ u = .frz { cls := .type "list", data := .seq vs.toArray } (.lst (ns.map V.int)) := by
    intro b u z
    unfold scriptH at z
    by_cases hba : b = a
    · rw [if_pos hba] at z
      exact ⟨hba, (Option.some.inj z).symm⟩
    · rw [if_neg hba] at z
      exact nomatch z
  have ok : HOk P w (scriptH a vs ns) s1.heap := by
    intro b u z
    obtain ⟨rfl, rfl⟩ := only z
    exact ⟨ha, by rw [List.length_map]; exact hl, vs, _, rv, ha⟩
  have base_of : ∀ {b : Addr} {o : Obj}, s1.heap.get? b = some o → scriptH a vs ns b = none → (hidT s1.heap (scriptH a vs ns)).get? b = some o := fun e n => hidT_get e n
  have nodict : ∀ {b : Addr} {o : Obj} {es : Array DictEntry} {ep : Nat}, s1.heap.get? b = some o → o.data = .dict es ep → scriptH a vs ns b = none := by
    intro b o es ep e d
    cases q : scriptH a vs ns b with
    | none => rfl
    | some u =>
      obtain ⟨rfl, _⟩ := only q
      rw [ha] at e
      have e3 := Option.some.inj e
      subst e3
      exact nomatch d
  have nsK : ∀ {b : Addr} {m : Str → Option Value}, s1.heap.Ns b m → (hidT s1.heap (scriptH a vs ns)).Ns b m := by
    rintro b m ⟨o, es, ep, e, d, r⟩
    exact ⟨o, es, ep, base_of e (nodict e d), d, r⟩
  have hKb : K.In (hidT s1.heap (scriptH a vs ns)) := by
    intro b o e
    refine base_of (KX b o e) ?_
    cases q : scriptH a vs ns b with
    | none => rfl
    | some u =>
      obtain ⟨rfl, _⟩ := only q
      rw [hk] at e
      exact nomatch e
  have hM : Mod K mg (hidT s1.heap (scriptH a vs ns)) := by
    obtain ⟨mc, h1, h2⟩ := hlim
    exact ⟨hKb, nsK hns, ⟨mb, nsK hb, hbb⟩, ⟨mc, nsK h1, h2⟩⟩
  have e0 : Env0 P w K mg (hidT s1.heap (scriptH a vs ns)) callerA [] s1 (scriptH a vs ns) :=
    ⟨rfl, hM, fun b o e => of_hidT e, Nat.le_of_eq (hidT_size _ _), trivial, fun b hb => absurd (show b ∈ ([] : List Addr) from hb) (by simp), ok, .of_eq hg⟩
  refine codeAny_mono ((F _ hKb (nsK hns)).run callerA [] s1 _ ⟨[.ref a], []⟩ [.ref a] [.ref a] _ _ ⟨hr, rfl⟩ e0 (hbind s1 (.ref a)) (.cons rfl .nil) hsp) fun r s2 z => ?_
  cases r with
  | error e =>
    obtain ⟨_, _, _, _, _, _, _, _, _, _, _, _, q⟩ := z
    exact False.elim q
  | ok fl =>
    cases fl with
    | next => exact False.elim z
    | brk => exact False.elim z
    | cont => exact False.elim z
    | ret u =>
      obtain ⟨v, H2, os2, bare2, un, ok2, ru, q⟩ := z
      have q2 : v = .bl true := q
      subst q2
      obtain rfl : u = Value.bool true := ru
      refine ⟨rfl, OldK.of_keep fun b o e => ?_, os2, bare2⟩
      cases q : scriptH a vs ns b with
      | none => exact un.keep b o e q (fun y => absurd (show b ∈ ([] : List Addr) from y) (by simp)) (by simp)
      | some u =>
        obtain ⟨rfl, rfl⟩ := only q
        have z2 := un.frzs b _ _ q
        obtain ⟨e1, _⟩ := ok b _ q
        obtain ⟨e2, _⟩ := ok2 b _ z2
        rw [e] at e1
        have e3 := Option.some.inj e1
        subst e3
        exact e2
/-- the script as data -/
def scriptD (ns : List Int) : D := .lst (ns.map D.int)
theorem script_sp {K : PySem.W.Frag} {mg : Str → Option Value} {a : Addr} {vs : List Value} {ns : List Int} {g : List D → M D} (h : ∃ μ, g [scriptD ns] [] = .ok (.bl true) μ) : spM K mg 1 g [.ref a] (scriptH a vs ns) (fun v _ => v = .bl true) fun _ _ _ => False := by
  obtain ⟨μ, h⟩ := h
  have wd : Wd K mg (scriptH a vs ns) ⟨[], []⟩ [] := ⟨rfl, .nil, fun b hb => absurd hb (by simp), fun b hb => absurd hb (by simp), fun i d b h1 _ => nomatch h1⟩
  have nl : ¬ Live ⟨[], []⟩ [] a := fun l => by
    rcases l with l | ⟨i, d, _, h2⟩
    · exact absurd l (by simp)
    · exact nomatch h2
  refine ⟨rfl, ⟨[], []⟩, [], [scriptD ns], wd, .cons (.lst (vs := ns.map V.int) ⟨.inr ⟨_, if_pos rfl⟩, nl⟩ (RL.ofInts ns)) .nil, ?_⟩
  rw [h]
  intro v H' ρ' _ _ r
  cases r
  rfl
/-- the whole row's walk -/
theorem walk_cl {l : PySem.W.OpenLaw} {n k : Nat} {q : Program} {loose : List Str} {XP : (Str → Option Value) → Heap → Prop} {fa : List He.Fa} {fn : List He.DefD} {ow : PySem.W.Frag → Bool} {m : Nat} {d : DefRec} {x : Str} {g : List D → M D}
    (hn : l.most = some n) (hn2 : n ≤ sizeLine) (hdf : d.params.defaults = []) (hr : Room k callerA)
    (F : ∀ (w : World) (K : PySem.W.Frag) (mg : Str → Option Value) (f0 : Addr) (h : Heap), K.In h → h.Ns mainGlobals mg → mg d.name = some (.ref f0) → ow K = true → He.SaysD fa fn K →
      ∃ fd : FuncData, (∀ (s : Shared) (u : Value), BindsTo s fd ⟨[u], []⟩ [(x, u)]) ∧ ∀ base : Heap, K.In base → base.Ns mainGlobals mg → FnG l.prog w K mg base (CXn l.prog w) k f0 fd [x] (spM K mg 1 g))
    (plain : ∀ ns : List Int, ns.length ≤ n → (∀ z ∈ ns, Builtin.Int.intBits z ≤ 1048576) → ∃ μ, g [scriptD ns] [] = .ok (.bl true) μ) :
    PySem.W.WalkO q loose XP (hookX m fa fn ow).says l.row.toRowW d [] (fun f vs => PySem.call f vs) := by
  refine Att.attach_callB hn hdf fun w s0 s1 mg mb f o pm cd doc a vs ns G Y ho hd hcd hmg hobj hints hlen hbits hg => ?_
  obtain ⟨K, KX, ap, hw, hs⟩ := Y
  obtain ⟨fd, hb, hF⟩ := F w K mg f _ KX G.T.g hmg hw hs
  exact law_go KX ap G.T.g G.T.b G.T.builtins G.T.nolimit hg hobj hints (Nat.le_trans hlen hn2) hr hF hb (script_sp (plain ns hlen hbits))
end CL

namespace CL
open PySem L2 PySem.Spec PyProof.Rows
/-- one class: its name, its field, its base's mro, whose __new__ it has -/
structure XR where
  c : Str
  f : Str
  tail : List Value
  newId : String
def xrB (K : PySem.W.Frag) (x : XR) : Bool :=
  (He.Fa.glo x.c).ok K && (xcB K (He.ga K x.c) x.tail x.newId && (decide (PySem.W.findIn K (.ref (He.ga K x.c)) "__init__" = some (some (.ref (He.ma K (He.ga K x.c) "__init__")))) &&
    (decide (PySem.W.typeIn K (.ref (He.ma K (He.ga K x.c) "__init__")) = some (.type "function")) && (decide (PySem.W.findIn K (.ref (He.ga K x.c)) x.f = some none) && decide (PySem.W.typeIn K (.ref (He.ga K x.c)) = some (.type "type"))))))
def owX (xs : List XR) (bs : List (String × List Str)) (K : PySem.W.Frag) : Bool :=
  sysOk K && (xs.all (xrB K) && ((xs.all fun x => xs.all fun y => decide (PySem.W.kitOne K (.ref (He.ga K x.c)) (.ref (He.ga K y.c)) = some (decide (x.c = y.c)))) &&
    xs.all fun x => bs.all fun b => decide (PySem.W.kitOne K (.ref (He.ga K x.c)) (.type b.1) = some (b.2.contains x.c))))
section
variable {K : PySem.W.Frag} {mg : Str → Option Value} {xs : List XR} {bs : List (String × List Str)} {x y : XR}
theorem owX_sys (h : owX xs bs K = true) : sysOk K = true := (Bool.and_eq_true_iff.mp h).1
theorem owX_all (h : owX xs bs K = true) (hx : x ∈ xs) : xrB K x = true := List.all_eq_true.mp (Bool.and_eq_true_iff.mp (Bool.and_eq_true_iff.mp h).2).1 x hx
theorem owX_isi (h : owX xs bs K = true) (hx : x ∈ xs) (hy : y ∈ xs) : PySem.W.kitOne K (.ref (He.ga K x.c)) (.ref (He.ga K y.c)) = some (decide (x.c = y.c)) :=
  of_decide_eq_true (List.all_eq_true.mp (List.all_eq_true.mp (Bool.and_eq_true_iff.mp (Bool.and_eq_true_iff.mp (Bool.and_eq_true_iff.mp h).2).2).1 x hx) y hy)
theorem owX_bse (h : owX xs bs K = true) (hx : x ∈ xs) {b : String × List Str} (hb : b ∈ bs) : PySem.W.kitOne K (.ref (He.ga K x.c)) (.type b.1) = some (b.2.contains x.c) :=
  of_decide_eq_true (List.all_eq_true.mp (List.all_eq_true.mp (Bool.and_eq_true_iff.mp (Bool.and_eq_true_iff.mp (Bool.and_eq_true_iff.mp h).2).2).2 x hx) b hb)
structure XrF (K : PySem.W.Frag) (x : XR) : Prop where
  xc : XC K (He.ga K x.c) x.tail x.newId
  init : PySem.W.findIn K (.ref (He.ga K x.c)) "__init__" = some (some (.ref (He.ma K (He.ga K x.c) "__init__")))
  ty : PySem.W.typeIn K (.ref (He.ma K (He.ga K x.c) "__init__")) = some (.type "function")
  no : PySem.W.findIn K (.ref (He.ga K x.c)) x.f = some none
  tc : PySem.W.typeIn K (.ref (He.ga K x.c)) = some (.type "type")
theorem xr_ok (h : xrB K x = true) : XrF K x := by
  unfold xrB at h
  simp only [Bool.and_eq_true, decide_eq_true_eq] at h
  obtain ⟨_, b, c, d, e, f⟩ := h
  exact ⟨xcB_ok b, c, d, e, f⟩
theorem xr_glo {hp : Heap} (X : K.In hp) (G : hp.Ns mainGlobals mg) (h : xrB K x = true) : mg x.c = some (.ref (He.ga K x.c)) := He.glo_ok X G (Bool.and_eq_true_iff.mp h).1
/-- what stands under the names -/
structure XFs (K : PySem.W.Frag) (mg : Str → Option Value) (xs : List XR) (bs : List (String × List Str)) : Prop where
  ow : owX xs bs K = true
  xg : ∀ x ∈ xs, mg x.c = some (.ref (He.ga K x.c))
theorem xfs_of {hp : Heap} (X : K.In hp) (G : hp.Ns mainGlobals mg) (h : owX xs bs K = true) : XFs K mg xs bs := ⟨h, fun _ hx => xr_glo X G (owX_all h hx)⟩
def clsF (xs : List XR) (f : Str) : List Str := (xs.filter fun x => decide (x.f = f)).map (·.c)
def clsA (xs : List XR) : List Str := xs.map (·.c)
theorem xa_of (Φ : XFs K mg xs bs) (f : Str) : ∀ c ∈ clsF xs f, XcA K mg c f := by
  intro c hc
  obtain ⟨x, hx, e⟩ := List.mem_map.mp hc
  obtain ⟨h1, h2⟩ := List.mem_filter.mp hx
  have h3 := of_decide_eq_true h2
  subst e h3
  have F := xr_ok (owX_all Φ.ow h1)
  exact ⟨_, _, _, Φ.xg x h1, F.xc, F.no⟩
theorem xi_of (Φ : XFs K mg xs bs) {y : XR} (hy : y ∈ xs) : ∀ c ∈ clsA xs, ∃ (C : Addr) (bmB : List Value) (newId : String), mg c = some (.ref C) ∧ XC K C bmB newId ∧ PySem.W.kitOne K (.ref C) (.ref (He.ga K y.c)) = some (decide (c = y.c)) := by
  intro c hc
  obtain ⟨x, hx, e⟩ := List.mem_map.mp hc
  subst e
  exact ⟨_, _, _, Φ.xg x hx, (xr_ok (owX_all Φ.ow hx)).xc, owX_isi Φ.ow hx hy⟩
theorem xb_of (Φ : XFs K mg xs bs) {b : String × List Str} (hb : b ∈ bs) : ∀ c ∈ clsA xs, ∃ (C : Addr) (bmB : List Value) (newId : String), mg c = some (.ref C) ∧ XC K C bmB newId ∧ PySem.W.kitOne K (.ref C) (.type b.1) = some (b.2.contains c) := by
  intro c hc
  obtain ⟨x, hx, e⟩ := List.mem_map.mp hc
  subst e
  exact ⟨_, _, _, Φ.xg x hx, (xr_ok (owX_all Φ.ow hx)).xc, owX_bse Φ.ow hx hb⟩
end
theorem xt_of {K : PySem.W.Frag} {mg : Str → Option Value} {xs : List XR} {bs : List (String × List Str)} {x : XR} (Φ : XFs K mg xs bs) (hx : x ∈ xs) : ∀ C, mg x.c = some (.ref C) → PySem.W.typeIn K (.ref C) = some (.type "type") := by
  intro C hC
  have e := (Φ.xg x hx).symm.trans hC
  injection e with e
  injection e with e
  rw [← e]
  exact (xr_ok (owX_all Φ.ow hx)).tc
/-- the bases -/
structure Bse (tail : List Value) (newId : String) : Prop where
  ex : ∃ (B B2 initId : String) (bm1 : List Value), ExcBaseFacts B newId initId bm1 ∧ (tail.contains (.type B) = true ∧ tail.contains (.type "AttributeError") = false ∧ tail.contains (.type "NameError") = false) ∧ StoreFacts B2 tail "object.__setattr__" "object"
abbrev tVE : List Value := [.type "ValueError", .type "Exception", .type "BaseException", .type "object"]
abbrev tLE : List Value := [.type "LookupError", .type "Exception", .type "BaseException", .type "object"]
abbrev tIE : List Value := [.type "IndexError", .type "LookupError", .type "Exception", .type "BaseException", .type "object"]
abbrev tOE : List Value := [.type "OverflowError", .type "ArithmeticError", .type "Exception", .type "BaseException", .type "object"]
theorem bVE : Bse tVE "ValueError.__new__" := ⟨_, _, _, _, F.excBase_ValueError, ⟨by decide +kernel, by decide +kernel, by decide +kernel⟩, F.store_ValueError⟩
theorem bLE : Bse tLE "LookupError.__new__" := ⟨_, _, _, _, F.excBase_LookupError, ⟨by decide +kernel, by decide +kernel, by decide +kernel⟩, F.store_LookupError⟩
theorem bIE : Bse tIE "IndexError.__new__" := ⟨_, _, _, _, F.excBase_IndexError, ⟨by decide +kernel, by decide +kernel, by decide +kernel⟩, F.store_IndexError⟩
theorem bOE : Bse tOE "OverflowError.__new__" := ⟨_, _, _, _, F.excBase_OverflowError, ⟨by decide +kernel, by decide +kernel, by decide +kernel⟩, F.store_OverflowError⟩
theorem bKE : Bse keTail "LookupError.__new__" := ⟨_, _, _, _, F.excBase_LookupError, ⟨by decide +kernel, by decide +kernel, by decide +kernel⟩, keStore⟩
theorem clX_mk {P : Program} {w : World} {K : PySem.W.Frag} {mg : Str → Option Value} {base : Heap} {xs : List XR} {bs : List (String × List Str)} {x : XR} {qual : Str} {params : Arguments} {scope : Scope} {fd : FuncData} {p1 p2 p3 pos : Pos} {n : Nat} {ks : List Str} (Φ : XFs K mg xs bs) (hx : x ∈ xs) (b : Bse x.tail x.newId)
    (F : FunD K "__init__" qual params [.Assign [.Attribute (.Name "self" p1) x.f p2] (.Name x.f p3) pos] scope [] [] (He.ma K (He.ga K x.c) "__init__") fd) (S : FnScope ["self", x.f] ["self", x.f] scope)
    (h0 : scope.names.lookup ("self" : Str) = some NameKind.local) (h1 : scope.names.lookup x.f = some NameKind.local) (hd : (x.f == ("__debug__" : Str)) = false) (hcd : (x.f == ("__classdict__" : Str)) = false)
    (hs : ∀ env : PySem.Env, swapsWith (.Name x.f p3) (some (.Attribute (.Name "self" p1) x.f p2)) pos.line env = pure false)
    (kb : KBn K fd ["self", x.f] (n + 1) ks (fun us ws => us ++ ws) (fun vs zs => vs ++ zs)) : ClX P w K mg base x.c x.f n ks := by
  obtain ⟨B, B2, initId, bm1, FB, hB, SF⟩ := b.ex
  have Q := xr_ok (owX_all Φ.ow hx)
  exact ⟨_, _, fd, B, _, initId, _, bm1, Φ.xg x hx, ⟨FB, hB⟩, Q.xc, Q.init, Q.ty, Q.no, initX_ok SF F S h0 h1 hd hcd hs, kb⟩
end CL

set_option maxHeartbeats 4000000
namespace CL
open PySem L2 PySem.Spec PyProof.Rows
theorem upd_gone {H : Hp} {a d : Addr} {o1 o2 u : HO} (ha : H a = none) (hne : d ≠ a) : upd (del (upd (upd H d o1) a o2) a) d u = upd H d u := by
  funext b
  by_cases hb : b = d
  · rw [hb, upd_same, upd_same]
  · rw [upd_ne hb, upd_ne hb]
    by_cases hba : b = a
    · rw [hba, del_same, ha]
    · rw [del_ne hba, upd_ne hba, upd_ne hb]
section
variable {X : Cx} {W : WX} {e : Expr} {p pos rpos : Pos} {k : Nat} {me : ME} {c f : Str}
def tRs (K : PySem.W.Frag) (mg : Str → Option Value) (W : WX) (me : ME) (c f : Str) : L2.St → Hp → XK → Prop := fun σ H Q => tM K mg W me σ H (fun y H1 => ∀ (dx C : Addr), mg c = some (.ref C) → H1 dx = none → Q (.ref C) (some dx) (upd H1 dx (.xd [(f, y)])))
theorem pmk_x (cl : ClX X.prog X.w X.K X.mg X.base c f 1 []) (hty : ∀ C, X.mg c = some (.ref C) → PySem.W.typeIn X.K (.ref C) = some (.type "type")) (hr : RmG k X.A) (hk2 : 2 ≤ k) (tk : Takes X W) (he : SE X W e me)
    (hg : Gl X c := by rfl) (hdb : (c == ("__debug__" : Str)) = false := by decide) (hst : starEach [e] X.env = (false, eval e X.env) :: starEach [] X.env := by rfl) : PMk X (.Call (.Name c p) [e] [] pos) (tRs X.K X.mg W me c f) := by
  intro pins s σ H Q I h
  obtain ⟨C, fI, fd, B, newId, initId, bmB, bm1, hm, ⟨FB, q1, q2, q3⟩, T, hI, tI, hno, FO, kb⟩ := cl.ex
  refine wpAny_Call_Name_kw (ld_glob I hg hm ?_ hdb)
  refine PySem.W.callWith_K (h₀ := X.base) I.ok.mod.kin T.kC ?_ hst (by rfl)
  have ha : PA X [e] (tCons (tM X.K X.mg W me) tNil) := pa_cons he pa_nil hst
  refine thn (ha.run pos pins s σ H (fun vs H1 => ∃ y, vs = [y] ∧ ∀ (dx C : Addr), X.mg c = some (.ref C) → H1 dx = none → Q (.ref C) (some dx) (upd H1 dx (.xd [(f, y)]))) I ?_) fun us s1 hh => ?_
  · obtain ⟨ρ, μ, env, w, re, pp⟩ := h
    exact ⟨ρ, μ, env, w, re, Post.imp pp (fun y H1 z => ⟨y, rfl, z⟩) fun _ _ _ z => z⟩
  obtain ⟨vs, H1, I1, ru, y, rfl, q⟩ := hh
  refine ⟨I1.kIn, ?_⟩
  show wpAny _ _ (call (.ref C) us) _ _ _
  obtain ⟨nm, N, qn, bs, bm, hdct, sn, sub, ab, col, dd, k0, k1, k2, k3, k5, hC, hT⟩ := PySem.W.excInit_of I1.kIn T.init
  obtain ⟨hp, g, dr, tk2, os⟩ := s1
  have hsz : hp.objs.size ≤ hp.objs.size + 1 := Nat.le_succ _
  have hn : H1 (hp.objs.size + 1) = none := I1.hok.fresh hsz
  have kk : ∀ b o, hp.get? b = some o → ((hp.push (PySem.W.kdv_tup us)).push (PySem.HandSPX.excO C hp.objs.size)).get? b = some o := fun b o e =>
    Heap.get?_push_of_some _ (Heap.get?_push_of_some _ e)
  have hget : ((hp.push (PySem.W.kdv_tup us)).push (PySem.HandSPX.excO C hp.objs.size)).get? (hp.objs.size + 1) = some (PySem.HandSPX.excO C hp.objs.size) := by
    heap_get
  have I3 : Inv X pins σ (upd H1 (hp.objs.size + 1) (exo (hp.objs.size + 1) C none)) ⟨(hp.push (PySem.W.kdv_tup us)).push (PySem.HandSPX.excO C hp.objs.size), g, dr, tk2, os⟩ :=
    I1.laid (t' := tk2) kk hsz (exo_ok hget)
  have hlen : us.length = 1 := ru.length.symm
  have rf : Vals ((V.ref (hp.objs.size + 1) :: [y]) ++ []) ((Value.ref (hp.objs.size + 1) :: us) ++ []) := kb.rel (.cons rfl ru) .nil
  have sp : spX X.K bmB newId f ((V.ref (hp.objs.size + 1) :: [y]) ++ []) (upd H1 (hp.objs.size + 1) (exo (hp.objs.size + 1) C none))
      (fun v H3 => v = .non ∧ ∃ d, H3 (hp.objs.size + 1) = some (exo (hp.objs.size + 1) C (some d)) ∧ H3 d = some (exd d [(f, y)]) ∧ H1 d = none ∧ Q (.ref C) (some d) (upd (del H3 (hp.objs.size + 1)) d (.xd [(f, y)]))) (fun _ _ _ => False) := by
    refine ⟨_, C, y, rfl, T, hno, upd_same, fun dx hdx hne => ⟨rfl, dx, upd_same, (upd_ne hne).trans upd_same, ?_, ?_⟩⟩
    · rw [upd_ne hne] at hdx
      exact hdx
    · rw [upd_back hne, upd_gone hn hne]
      rw [upd_ne hne] at hdx
      exact q dx C hm hdx
  have hus : us.length ≤ sizeLine := by
    rw [hlen, sizeLine_eq]
    omega
  refine wpAny_call (PySem.XKw.call_kw FB ⟨(hT _).trans q1, (hT _).trans q2, (hT _).trans q3⟩ hC (PySem.W.looks_findIn I1.kIn hI) (fun self => PySem.W.bind_fn I1.kIn self tI) hus
    (codeAny_mono (FO.run _ X.stack _ _ ⟨Value.ref (hp.objs.size + 1) :: us, []⟩ _ _ _ (fun _ _ _ => False) ((hr.mono hk2).make C us []) (I3.env0.make C us []) (kb.to _ (Value.ref (hp.objs.size + 1) :: us) [] I3.kIn (by rw [List.length_cons, hlen]) rfl) rf sp) fun out s3 z => ?_))
  cases out with
  | error x =>
    obtain ⟨_, _, _, _, _, _, _, _, _, _, _, _, z⟩ := z
    exact False.elim z
  | ok fl =>
    cases fl with
    | ret u =>
      obtain ⟨v, H4, os2, bare2, un2, ok2, rv, ev, d, ea, ed, hd1, q4⟩ := z
      subst ev
      obtain ⟨h2, g2, d2, t2, os'⟩ := s3
      exact ⟨rv, mk_end (raises_own T.sub (hty C hm)) I1 hsz kk un2 ok2 os2 bare2 ea ed hd1 q4⟩
    | next => exact False.elim z
    | brk => exact False.elim z
    | cont => exact False.elim z
def sRaise (c : Str) (me : ME) : MS := fun env μ => (me env μ).st env fun d m => .ex c d env m
theorem s_raise (cl : ClX X.prog X.w X.K X.mg X.base c f 1 []) (hty : ∀ C, X.mg c = some (.ref C) → PySem.W.typeIn X.K (.ref C) = some (.type "type")) (hc : X.calm = true) (hr : RmG k X.A) (hk2 : 2 ≤ k) (tk : Takes X W) (he : SE X W e me)
    (hg : Gl X c := by rfl) (hdb : (c == ("__debug__" : Str)) = false := by decide) (hst : starEach [e] X.env = (false, eval e X.env) :: starEach [] X.env := by rfl) : SS X W (.Raise (some (.Call (.Name c p) [e] [] pos)) none rpos) (sRaise c me) := by
  refine PS.imp (ps_raise hc tk (pmk_x cl hty hr hk2 tk he hg hdb hst)) fun Dn σ H ⟨ρ, μ, env, w, re, pp⟩ => ?_
  refine ⟨ρ, μ, env, w, re, Post.imp (post_st re pp) (fun y H1 ⟨d, ρ1, μ1, e1, w1, re1, r1, p1⟩ => ?_) fun _ _ _ z => z⟩
  intro dx C hm hdx
  have ex := Exm.new (o := .xd [(f, y)]) w1 hdx
  exact p1 (.ref C) (some dx) σ _ ρ1 ex (w1.new hdx) (re1.mono ex) ⟨C, dx, f, y, hm, rfl, rfl, upd_same, r1.mono ex.x⟩
end
end CL

namespace CL
open PySem L2 PySem.Spec PyProof.Rows
section
variable {K : PySem.W.Frag} {mg : Str → Option Value} {H H1 : Hp} {ρ ρ1 : Lc} {μ μ1 : Mem} {E : XK}
variable {X : Cx} {W : WX} {e : Expr} {pos p1 p2 p3 : Pos} {me : ME} {k : List D → M D}
def dRev (k : List D → M D) : D → M D := fun x μ => match lstOf μ x with
  | some xs => k xs.reverse μ
  | none => .no
theorem se_rev {j : Nat} (hk : NewK k) (he : SE X W e me) : SE X W (.Subscript e (.Slice none none (some (.UnaryOp .USub (.Constant (.int 1) j p1) p2)) p3) pos) (mUn (dRev k) me) := by
  refine PE.imp (pe_revL he) fun σ H Q ⟨ρ, μ, env, w, re, p⟩ => ?_
  refine ⟨ρ, μ, env, w, re, Post.imp (post_bind p) (fun v H1 ⟨d, ρ1, μ1, e1, w1, r1, p1⟩ => ?_) fun _ _ _ z => z⟩
  unfold dRev at p1
  cases hl : lstOf μ1 d with
  | none => rw [hl] at p1; exact False.elim p1
  | some xs =>
    rw [hl] at p1
    obtain ⟨a, vs, rfl, hR, rl⟩ := lstOf_ok w1 r1 hl
    exact ⟨a, vs, rfl, .inl hR, hk _ _ _ _ _ _ _ _ _ w1 rl.reverse p1⟩
end
end CL

namespace CL
open PySem L2 PySem.Spec PyProof.Rows
section
variable {K : PySem.W.Frag} {mg : Str → Option Value} {H H1 : Hp} {ρ ρ1 : Lc} {μ μ1 : Mem} {E : XK}
/-- a tuple is never mutable -/
theorem tup_dead (w : Wd K mg H ρ μ) {q : Addr} {xs : List V} (h : H q = some (.tup xs)) : ¬ Live ρ μ q := by
  rintro (l | ⟨i, d, h1, h2, h3⟩)
  · obtain ⟨⟨o, e, ho⟩, _⟩ := w.hid q l
    rw [h] at e
    exact ho xs (Option.some.inj e).symm
  · have c := w.cell i d q h2 h1
    cases d with
    | lst ds => obtain ⟨vs, e, _⟩ := c; rw [h] at e; exact nomatch e
    | dct t kds =>
      cases t with
      | false => obtain ⟨kvs, ds, e, _⟩ := c; rw [h] at e; exact nomatch e
      | true => obtain ⟨kvs, ds, e, _⟩ := c; rw [h] at e; exact nomatch e
    | ins cc fs => obtain ⟨C, dx, fs', ds, e, _⟩ := c; rw [h] at e; exact nomatch e
    | tup _ => exact nomatch h3
    | _ => exact c
/-- a dict that stands still is locked -/
theorem exm_lock (w : Wd K mg H ρ μ) {a : Addr} {u : HO} {od : Obj} (h : H a = some u) (hd : isD u = true) (n : ¬ Live ρ μ a) : Exm H ρ μ (upd H a (.frz od u)) ρ μ ∧ Wd K mg (upd H a (.frz od u)) ρ μ := by
  have ex : Exx H (Live ρ μ) ρ.cs (upd H a (.frz od u)) (Live ρ μ) ρ.cs := by
    refine ⟨fun b o e nb => ?_, fun _ _ _ l => l, fun _ _ z => z⟩
    by_cases hb : b = a
    · subst hb
      rw [h] at e
      have e2 := Option.some.inj e
      subst e2
      exact .inr ⟨hd, od, upd_same⟩
    · exact .inl ((upd_ne hb).trans e)
  have kk : ∀ b, Live ρ μ b → (upd H a (.frz od u)) b = H b := fun b l => upd_ne fun z => n (z ▸ l)
  exact ⟨⟨ex, rfl, fun b hb => kk b (.inl hb)⟩, w.keep ex kk⟩
def tLk (te : TE) : TE := fun σ H Q => te σ H fun x H1 => ∃ d u, x = .ref d ∧ isD u = true ∧ ((H1 d = some u ∧ ∀ od, Q x (upd H1 d (.frz od u))) ∨ ∃ od, H1 d = some (.frz od u) ∧ Q x H1)
theorem pe_lk {X : Cx} {e : Expr} {te : TE} (he : PE X e te) : PE X e (tLk te) := by
  refine ⟨fun pins s σ H Q I h => thn (he.run pins s σ H _ I h) fun v s1 hh => ?_⟩
  obtain ⟨x, H1, I1, rx, d, u, ex, hd, q⟩ := hh
  rcases q with ⟨h1, q⟩ | ⟨od, h1, q⟩
  · have mu : Mut (some u) := by
      cases u with
      | dK kvs => exact True.intro
      | dT kvs => exact True.intro
      | _ => exact nomatch hd
    obtain ⟨od, I2⟩ := I1.lock h1 mu
    exact ⟨x, _, I2, rx, q od⟩
  · exact ⟨x, H1, I1, rx, q⟩
def asKeys : D → M Its := fun d μ => match d with
  | .dct _ kds => .ok ⟨kds.map (·.1), none⟩ μ
  | _ => .no
def iKeysM (a : ME) : MI := fun env μ => (a env μ).bind asKeys
theorem zip_keys {α : Type} {f : α → D} {kvs : List α} {ds : List D} (h : kvs.length = ds.length) : ((kvs.map f).zip ds).map (·.1) = kvs.map f := by
  rw [show ((fun x : D × D => x.1) = Prod.fst) from rfl, List.map_fst_zip (by rw [List.length_map]; omega)]
theorem walk_dK {a : Addr} {od : Obj} {kvs : List (Key × V)} (h : H a = some (.frz od (.dK kvs))) (n : ¬ Live ρ μ a) : WalkM K mg (Itk a od kvs) ⟨kvs.map fun p => kD p.1, none⟩ H ρ μ where
  goes := fun H' ρ' μ' i e w ho hi => ⟨e.kept h n rfl, by simpa using hi⟩
  stops := fun H' ρ' μ' e w ho => ⟨e.kept h n rfl, by simp⟩
  yields := fun H' ρ' μ' i x H2 d e w ho hi hy => by
    obtain ⟨rfl, k, v, h1, rfl⟩ := hy
    have e2 : (kvs.map fun p => kD p.1)[i]? = some (kD k) := by
      rw [List.getElem?_map, h1]
      rfl
    have e3 := Option.some.inj (e2.symm.trans hi)
    subst e3
    exact ⟨Exm.refl, w, R.ofKey k⟩
theorem RL.keysOf {Lv : Addr → Prop} {cs : List Addr} : ∀ ks : List Key, RL K mg H Lv cs (ks.map kV) (ks.map kD)
  | [] => .nil
  | k :: ks => .cons (R.ofKey k) (RL.keysOf ks)
theorem walk_dT {a : Addr} {od : Obj} {kvs : List (List Key × V)} (h : H a = some (.frz od (.dT kvs))) (n : ¬ Live ρ μ a) : WalkM K mg (Itkt a od kvs) ⟨kvs.map fun p => D.tup (p.1.map kD), none⟩ H ρ μ where
  goes := fun H' ρ' μ' i e w ho hi => ⟨e.kept h n rfl, by simpa using hi⟩
  stops := fun H' ρ' μ' e w ho => ⟨e.kept h n rfl, by simp⟩
  yields := fun H' ρ' μ' i x H2 d e w ho hi hy => by
    obtain ⟨rfl, k, v, q, h1, rfl, h3⟩ := hy
    have e2 : (kvs.map fun p => D.tup (p.1.map kD))[i]? = some (D.tup (k.map kD)) := by
      rw [List.getElem?_map, h1]
      rfl
    have e3 := Option.some.inj (e2.symm.trans hi)
    subst e3
    exact ⟨Exm.refl, w, .tup (.inl ⟨h3, tup_dead w h3⟩) (RL.keysOf k)⟩
theorem si_keys {X : Cx} {W : WX} {tg e : Expr} {me : ME} (he : SE X W e me) : SI X W tg e (iKeysM me) := by
  refine PI.imp (pi_keys (pe_lk he)) fun σ H R ⟨ρ, μ, env, w, re, p⟩ => ?_
  refine ⟨ρ, μ, env, w, re, Post.imp (post_bindI p) (fun v H1 ⟨d, ρ1, μ1, e1, w1, r1, p1⟩ => ?_) fun _ _ _ z => z⟩
  cases r1 with
  | @dK a kvs vs ds kds h1 n z rl q =>
    subst z
    have hl : kvs.length = ds.length := by
      have := rl.length
      rwa [List.length_map] at this
    have p2 : PostI X.K X.mg (.ok ⟨kvs.map fun p => kD p.1, none⟩ μ1) H1 ρ1 μ1 R (fun c od H' => W c od σ H') := by
      have e0 : asKeys (.dct false kds) μ1 = .ok ⟨kvs.map fun p => kD p.1, none⟩ μ1 := by
        show Rs.ok (⟨kds.map (·.1), none⟩ : Its) μ1 = _
        rw [q, zip_keys hl]
      rw [e0] at p1
      exact p1
    rcases h1 with h1 | ⟨od, h1⟩
    · refine ⟨a, .dK kvs, rfl, rfl, .inl ⟨h1, fun od => ?_⟩⟩
      obtain ⟨x2, w2⟩ := exm_lock (od := od) w1 h1 rfl n
      exact ⟨a, od, rfl, .inl ⟨kvs, upd_same, p2 _ _ ρ1 x2 w2 (walk_dK upd_same n)⟩⟩
    · exact ⟨a, .dK kvs, rfl, rfl, .inr ⟨od, h1, a, od, rfl, .inl ⟨kvs, h1, p2 _ _ ρ1 Exm.refl w1 (walk_dK h1 n)⟩⟩⟩
  | @dT a kvs vs ds kds h1 n z rl q =>
    subst z
    have hl : kvs.length = ds.length := by
      have := rl.length
      rwa [List.length_map] at this
    have p2 : PostI X.K X.mg (.ok ⟨kvs.map fun p => D.tup (p.1.map kD), none⟩ μ1) H1 ρ1 μ1 R (fun c od H' => W c od σ H') := by
      have e0 : asKeys (.dct true kds) μ1 = .ok ⟨kvs.map fun p => D.tup (p.1.map kD), none⟩ μ1 := by
        show Rs.ok (⟨kds.map (·.1), none⟩ : Its) μ1 = _
        rw [q, zip_keys hl]
      rw [e0] at p1
      exact p1
    rcases h1 with h1 | ⟨od, h1⟩
    · refine ⟨a, .dT kvs, rfl, rfl, .inl ⟨h1, fun od => ?_⟩⟩
      obtain ⟨x2, w2⟩ := exm_lock (od := od) w1 h1 rfl n
      exact ⟨a, od, rfl, .inr ⟨kvs, upd_same, p2 _ _ ρ1 x2 w2 (walk_dT upd_same n)⟩⟩
    · exact ⟨a, .dT kvs, rfl, rfl, .inr ⟨od, h1, a, od, rfl, .inr ⟨kvs, h1, p2 _ _ ρ1 Exm.refl w1 (walk_dT h1 n)⟩⟩⟩
  | _ => exact False.elim p1
end
end CL

namespace CL
open PySem L2 PySem.Spec PyProof.Rows
def asAny : D → M Its := fun d μ => match d with
  | .dct t kds => asKeys (.dct t kds) μ
  | d => asSeq d μ
def iAny (a : ME) : MI := fun env μ => (a env μ).bind asAny
theorem si_any {X : Cx} {W : WX} {tg l : Expr} {ml : ME} (hl : SE X W l ml) : SI X W tg l (iAny ml) := by
  refine PI.imp (PI.or (si_keys hl) (si_seq hl)) fun σ H R ⟨ρ, μ, env, w, re, p⟩ => ?_
  cases h1 : ml env μ with
  | ok d m =>
    unfold iAny at p
    rw [h1] at p
    cases d with
    | dct t kds => exact .inl ⟨ρ, μ, env, w, re, by unfold iKeysM; rw [h1]; exact p⟩
    | _ => exact .inr ⟨ρ, μ, env, w, re, by unfold iSeq; rw [h1]; exact p⟩
  | ex c x m => exact .inr ⟨ρ, μ, env, w, re, by unfold iAny at p; unfold iSeq; rw [h1] at p ⊢; exact p⟩
  | no => exact .inr ⟨ρ, μ, env, w, re, by unfold iAny at p; rw [h1] at p; exact False.elim p⟩
section
variable {K : PySem.W.Frag} {mg : Str → Option Value}
/-- list(x): a list, a tuple, a dict of ints and texts -/
def dListA (k : List D → M D) : List D → M D := fun ds μ => match ds with
  | [x] => (match dctOf μ x with
    | some (false, kds) => k (kds.map (·.1)) μ
    | _ => dListC k [x] μ)
  | _ => .no
def rListA (K : PySem.W.Frag) : List V → Hp → VK → Prop := fun xs H Q => (∃ p ys, xs = [V.ref p] ∧ (SqL K H p ys ∨ SqT K H p ys) ∧ ∀ l, H l = none → Q (.ref l) (upd H l (.lst ys))) ∨
  ∃ (a : Addr) (kvs : List (Key × V)), xs = [.ref a] ∧ Rd H a (.dK kvs) ∧ ∀ p, H p = none → Q (.ref p) (upd H p (.lst (kvs.map fun kv => kV kv.1)))
theorem call_listA {X : Cx} (hc : X.calm = true) : CallR X (.type "list") (rListA X.K) := CallR.or call_list_of (call_listD hc)
theorem m_listA {k : List D → M D} (hk : NewK k) : CallM K mg (rListA K) (dListA k) := by
  intro H ρ μ vs ds Q E w rv p
  cases rv with
  | nil => exact False.elim p
  | cons r t =>
    cases t with
    | cons _ _ => exact False.elim p
    | nil =>
      rename_i v d
      unfold dListA at p
      dsimp only at p
      cases hd : dctOf μ d with
      | none =>
        rw [hd] at p
        exact .inl (m_listc hk H ρ μ [v] [d] Q E w (.cons r .nil) p)
      | some z =>
        obtain ⟨t, kds⟩ := z
        rw [hd] at p
        cases t with
        | true => exact .inl (m_listc hk H ρ μ [v] [d] Q E w (.cons r .nil) p)
        | false =>
          dsimp only at p
          obtain ⟨a, ea, hR⟩ := dctOf_rd w r hd
          rcases hR with ⟨_, kvs, ds, h1, rl, q⟩ | ⟨e, _⟩
          · have hl : kvs.length = ds.length := by
              have := rl.length
              rwa [List.length_map] at this
            have e1 : (kvs.map fun kv => kV kv.1) = (kvs.map (·.1)).map kV := by rw [List.map_map]; rfl
            have e2 : kds.map (·.1) = (kvs.map (·.1)).map kD := by rw [q, zip_keys hl, List.map_map]; rfl
            rw [e2] at p
            subst ea
            exact .inr ⟨a, kvs, rfl, h1, by rw [e1]; exact hk _ _ _ _ _ _ _ _ _ w (RL.keysOf _) p⟩
          · exact nomatch e
end
end CL

namespace CL
open PySem L2 PySem.Spec PyProof.Rows
def ins1 (x : Int) : List Int → List Int
  | [] => [x]
  | y :: l => if x ≤ y then x :: y :: l else y :: ins1 x l
def sortI : List Int → List Int
  | [] => []
  | x :: l => ins1 x (sortI l)
theorem ins1_perm (x : Int) : ∀ l, (ins1 x l).Perm (x :: l)
  | [] => .refl _
  | y :: l => by
    unfold ins1
    split
    · exact .refl _
    · exact ((ins1_perm x l).cons y).trans (.swap x y l)
theorem ins1_pw (x : Int) : ∀ l, l.Pairwise (· ≤ ·) → (ins1 x l).Pairwise (· ≤ ·)
  | [], _ => List.pairwise_singleton _ _
  | y :: l, h => by
    obtain ⟨h1, h2⟩ := List.pairwise_cons.mp h
    unfold ins1
    split
    · rename_i hc
      exact List.pairwise_cons.mpr ⟨fun z hz => by
        rcases List.mem_cons.mp hz with e | hz
        · omega
        · have := h1 z hz
          omega, h⟩
    · rename_i hc
      refine List.pairwise_cons.mpr ⟨fun z hz => ?_, ins1_pw x l h2⟩
      rcases List.mem_cons.mp ((ins1_perm x l).mem_iff.mp hz) with e | hz
      · omega
      · exact h1 z hz
theorem sortI_perm : ∀ l, (sortI l).Perm l
  | [] => .refl _
  | x :: l => (ins1_perm x _).trans ((sortI_perm l).cons x)
theorem sortI_pw : ∀ l, (sortI l).Pairwise (· ≤ ·)
  | [] => .nil
  | x :: l => ins1_pw x _ (sortI_pw l)
theorem pw_uniq : ∀ {l m : List Int}, l.Perm m → l.Pairwise (· ≤ ·) → m.Pairwise (· ≤ ·) → l = m
  | [], m, p, _, _ => (List.Perm.eq_nil p.symm).symm
  | x :: l, [], p, _, _ => absurd p.length_eq (by simp)
  | x :: l, y :: m, p, h1, h2 => by
    obtain ⟨a1, a2⟩ := List.pairwise_cons.mp h1
    obtain ⟨b1, b2⟩ := List.pairwise_cons.mp h2
    have e : x = y := by
      have hx : x ∈ y :: m := p.mem_iff.mp List.mem_cons_self
      have hy : y ∈ x :: l := p.mem_iff.mpr List.mem_cons_self
      have c1 : y ≤ x := by
        rcases List.mem_cons.mp hx with e | hx
        · omega
        · exact b1 x hx
      have c2 : x ≤ y := by
        rcases List.mem_cons.mp hy with e | hy
        · omega
        · exact a1 y hy
      omega
    subst e
    rw [pw_uniq (List.Perm.cons_inv p) a2 b2]
section
variable {K : PySem.W.Frag} {mg : Str → Option Value}
def dSortI (k : List D → M D) : List D → M D := fun ds μ => match ds with
  | [x] => (match lstOf μ x with
    | some xs => (match asInts xs with
      | some ns => k ((sortI ns).map D.int) μ
      | none => .no)
    | none => .no)
  | _ => .no
theorem m_sortI {k : List D → M D} (hk : NewK k) : CallM K mg (rSortedI K) (dSortI k) := by
  intro H ρ μ vs ds Q E w rv p
  unfold dSortI at p
  cases rv with
  | nil => exact False.elim p
  | cons r t =>
    cases t with
    | cons _ _ => exact False.elim p
    | nil =>
      rename_i v d
      dsimp only at p
      cases h1 : lstOf μ d with
      | none => rw [h1] at p; exact False.elim p
      | some xs =>
        rw [h1] at p
        dsimp only at p
        cases h2 : asInts xs with
        | none => rw [h2] at p; exact False.elim p
        | some ns =>
          rw [h2] at p
          obtain ⟨a, ws, rfl, hR, rl⟩ := lstOf_ok w r h1
          have ex := asInts_eq h2
          subst ex
          have ew := rl.ints
          subst ew
          refine ⟨a, ns, rfl, .inl hR, fun ns' q hp hw hq => ?_⟩
          have e := pw_uniq (hp.trans (sortI_perm ns).symm) hw (sortI_pw ns)
          subst e
          exact hk _ _ _ _ _ _ _ _ _ w (RL.ofInts _) p q hq
end
end CL

namespace CL
open PySem L2 PySem.Spec PyProof.Rows
section
variable {K : PySem.W.Frag} {mg : Str → Option Value} {H H1 : Hp} {ρ ρ1 : Lc} {μ μ1 : Mem} {E : XK}
def dSum : List D → M D := fun ds μ => match ds with
  | [x] => (match lstOf μ x with
    | some xs => (match asInts xs with
      | some ns => .ok (.int ns.sum) μ
      | none => .no)
    | none => .no)
  | _ => .no
theorem m_sum : CallM K mg (rSum K) dSum := by
  intro H ρ μ vs ds Q E w rv p
  unfold dSum at p
  cases rv with
  | nil => exact False.elim p
  | cons r t =>
    cases t with
    | cons _ _ => exact False.elim p
    | nil =>
      rename_i v d
      dsimp only at p
      cases h1 : lstOf μ d with
      | none => rw [h1] at p; exact False.elim p
      | some xs =>
        rw [h1] at p
        dsimp only at p
        cases h2 : asInts xs with
        | none => rw [h2] at p; exact False.elim p
        | some ns =>
          rw [h2] at p
          obtain ⟨a, ws, rfl, hR, rl⟩ := lstOf_ok w r h1
          have ex := asInts_eq h2
          subst ex
          have ew := rl.ints
          subst ew
          exact ⟨a, ns, rfl, .inl hR, Post.ok w p (.int _)⟩
def asVals : D → M Its := fun d μ => match d with
  | .dct false kds => .ok ⟨kds.map (·.2), none⟩ μ
  | _ => .no
def asItems : D → M Its := fun d μ => match d with
  | .dct false kds => .ok ⟨kds.map (fun p => D.tup [p.1, p.2]), none⟩ μ
  | _ => .no
def iVals (a : ME) : MI := fun env μ => (a env μ).bind asVals
def iItems (a : ME) : MI := fun env μ => (a env μ).bind asItems
theorem zip_snd {α : Type} {f : α → D} {kvs : List α} {ds : List D} (h : kvs.length = ds.length) : ((kvs.map f).zip ds).map (·.2) = ds := by
  rw [show ((fun x : D × D => x.2) = Prod.snd) from rfl, List.map_snd_zip (by rw [List.length_map]; omega)]
theorem walk_vK {a : Addr} {od : Obj} {kvs : List (Key × V)} {ds : List D} (h : H a = some (.frz od (.dK kvs))) (n : ¬ Live ρ μ a) (rl : RLm K mg H ρ μ (kvs.map (·.2)) ds) : WalkM K mg (Itd a od kvs) ⟨ds, none⟩ H ρ μ where
  goes := fun H' ρ' μ' i e w ho hi => ⟨e.kept h n rfl, by
    have := rl.length
    rw [List.length_map] at this
    have hi : i < ds.length := hi
    omega⟩
  stops := fun H' ρ' μ' e w ho => ⟨e.kept h n rfl, by
    have := rl.length
    rw [List.length_map] at this
    show kvs.length ≤ ds.length
    omega⟩
  yields := fun H' ρ' μ' i x H2 d e w ho hi hy => by
    obtain ⟨rfl, k, h1⟩ := hy
    have h2 : (kvs.map (·.2))[i]? = some x := by
      rw [List.getElem?_map, h1]
      rfl
    obtain ⟨d', h3, h4⟩ := rl.getV h2
    have e3 : d' = d := Option.some.inj (h3.symm.trans hi)
    subst e3
    exact ⟨Exm.refl, w, h4.mono e⟩
theorem walk_iK {a : Addr} {od : Obj} {kvs : List (Key × V)} {ds : List D} (h : H a = some (.frz od (.dK kvs))) (n : ¬ Live ρ μ a) (rl : RLm K mg H ρ μ (kvs.map (·.2)) ds) :
    WalkM K mg (Iti a od kvs) ⟨((kvs.map fun p => kD p.1).zip ds).map (fun p => D.tup [p.1, p.2]), none⟩ H ρ μ where
  goes := fun H' ρ' μ' i e w ho hi => ⟨e.kept h n rfl, by
    have hi : i < (((kvs.map fun p => kD p.1).zip ds).map (fun p => D.tup [p.1, p.2])).length := hi
    rw [List.length_map, List.length_zip, List.length_map] at hi
    omega⟩
  stops := fun H' ρ' μ' e w ho => ⟨e.kept h n rfl, by
    have := rl.length
    rw [List.length_map] at this
    show kvs.length ≤ (((kvs.map fun p => kD p.1).zip ds).map (fun p => D.tup [p.1, p.2])).length
    rw [List.length_map, List.length_zip, List.length_map]
    omega⟩
  yields := fun H' ρ' μ' i x H2 d e w ho hi hy => by
    obtain ⟨T, k, v, h1, rfl, hT, rfl⟩ := hy
    have h2 : (kvs.map (·.2))[i]? = some v := by
      rw [List.getElem?_map, h1]
      rfl
    obtain ⟨d', h3, h4⟩ := rl.getV h2
    have e2 : (((kvs.map fun p => kD p.1).zip ds).map (fun p => D.tup [p.1, p.2]))[i]? = some (D.tup [kD k, d']) := by
      rw [List.getElem?_map]
      have e3 : ((kvs.map fun p => kD p.1).zip ds)[i]? = some (kD k, d') := by
        rw [List.getElem?_zip_eq_some]
        exact ⟨by rw [List.getElem?_map, h1]; rfl, h3⟩
      rw [e3]
      rfl
    have e3 := Option.some.inj (e2.symm.trans hi)
    subst e3
    exact ⟨Exm.new w hT, w.new hT, Rm.newT w hT (.cons (R.ofKey k) (.cons (h4.mono e) .nil))⟩
section
variable {X : Cx} {W : WX} {tg e : Expr} {me : ME} {apos cpos tpos : Pos} {elts : List Expr} {kk : Nat}
theorem si_vals (he : SE X W e me) (hbase : attributeBase e "values" X.env (eval e X.env) = eval e X.env := by rfl) (hline : (apos.endLine == cpos.line) = true := by rfl) : SI X W tg (.Call (.Attribute e "values" apos) [] [] cpos) (CL.iVals me) := by
  refine PI.imp (pi_values (pe_lk he) hbase hline) fun σ H R ⟨ρ, μ, env, w, re, p⟩ => ?_
  refine ⟨ρ, μ, env, w, re, Post.imp (post_bindI p) (fun v H1 ⟨d, ρ1, μ1, e1, w1, r1, p1⟩ => ?_) fun _ _ _ z => z⟩
  cases r1 with
  | @dK a kvs vs ds kds h1 n z rl q =>
    subst z
    have hl : kvs.length = ds.length := by
      have := rl.length
      rwa [List.length_map] at this
    have p2 : PostI X.K X.mg (.ok ⟨ds, none⟩ μ1) H1 ρ1 μ1 R (fun c od H' => W c od σ H') := by
      have e0 : asVals (.dct false kds) μ1 = .ok ⟨ds, none⟩ μ1 := by
        show Rs.ok (⟨kds.map (·.2), none⟩ : Its) μ1 = _
        rw [q, zip_snd hl]
      rw [e0] at p1
      exact p1
    rcases h1 with h1 | ⟨od, h1⟩
    · refine ⟨a, .dK kvs, rfl, rfl, .inl ⟨h1, fun od => ?_⟩⟩
      obtain ⟨x2, w2⟩ := exm_lock (od := od) w1 h1 rfl n
      exact ⟨a, od, kvs, rfl, upd_same, p2 _ _ ρ1 x2 w2 (walk_vK upd_same n (rl.mono x2.x))⟩
    · exact ⟨a, .dK kvs, rfl, rfl, .inr ⟨od, h1, a, od, kvs, rfl, h1, p2 _ _ ρ1 Exm.refl w1 (walk_vK h1 n rl)⟩⟩
  | @dT a kvs vs ds kds h1 n z rl q => exact False.elim p1
  | _ => exact False.elim p1
theorem si_items (he : SE X W e me) (hbase : attributeBase e "items" X.env (eval e X.env) = eval e X.env := by rfl) (hline : (apos.endLine == cpos.line) = true := by rfl) : SI X W (.Tuple elts kk tpos) (.Call (.Attribute e "items" apos) [] [] cpos) (CL.iItems me) := by
  refine PI.imp (pi_items (pe_lk he) hbase hline) fun σ H R ⟨ρ, μ, env, w, re, p⟩ => ?_
  refine ⟨ρ, μ, env, w, re, Post.imp (post_bindI p) (fun v H1 ⟨d, ρ1, μ1, e1, w1, r1, p1⟩ => ?_) fun _ _ _ z => z⟩
  cases r1 with
  | @dK a kvs vs ds kds h1 n z rl q =>
    subst z
    have p2 : PostI X.K X.mg (.ok ⟨((kvs.map fun p => kD p.1).zip ds).map (fun p => D.tup [p.1, p.2]), none⟩ μ1) H1 ρ1 μ1 R (fun c od H' => W c od σ H') := by
      have e0 : asItems (.dct false kds) μ1 = .ok ⟨((kvs.map fun p => kD p.1).zip ds).map (fun p => D.tup [p.1, p.2]), none⟩ μ1 := by
        rw [q]
        rfl
      rw [e0] at p1
      exact p1
    rcases h1 with h1 | ⟨od, h1⟩
    · refine ⟨a, .dK kvs, rfl, rfl, .inl ⟨h1, fun od => ?_⟩⟩
      obtain ⟨x2, w2⟩ := exm_lock (od := od) w1 h1 rfl n
      exact ⟨a, od, kvs, rfl, upd_same, p2 _ _ ρ1 x2 w2 (walk_iK upd_same n (rl.mono x2.x))⟩
    · exact ⟨a, .dK kvs, rfl, rfl, .inr ⟨od, h1, a, od, kvs, rfl, h1, p2 _ _ ρ1 Exm.refl w1 (walk_iK h1 n rl)⟩⟩
  | @dT a kvs vs ds kds h1 n z rl q => exact False.elim p1
  | _ => exact False.elim p1
end
end
end CL

namespace CL
open PySem L2 PySem.Spec PyProof.Rows
/-- idx tells for each parameter: true, i: the i-th keyword's value; false, i: the i-th positional one -/
def gPerm {α : Type} (idx : List (Bool × Nat)) (us ws : List α) : List α := match idx with
  | [] => []
  | (b, i) :: r => (match (if b then ws[i]? else us[i]?) with
    | some x => x :: gPerm r us ws
    | none => gPerm r us ws)
theorem vals_at {i : Nat} : ∀ {vs : List V} {us : List Value}, Vals vs us → (∃ v u, vs[i]? = some v ∧ us[i]? = some u ∧ RelV v u) ∨ (vs[i]? = none ∧ us[i]? = none) := by
  induction i with
  | zero =>
    intro vs us r
    cases r with
    | nil => exact .inr ⟨rfl, rfl⟩
    | cons a t => exact .inl ⟨_, _, rfl, rfl, a⟩
  | succ i ih =>
    intro vs us r
    cases r with
    | nil => exact .inr ⟨rfl, rfl⟩
    | cons a t => exact ih t
theorem gPerm_vals (idx : List (Bool × Nat)) {vs zs : List V} {us ws : List Value} (r1 : Vals vs us) (r2 : Vals zs ws) : Vals (gPerm idx vs zs) (gPerm idx us ws) := by
  induction idx with
  | nil => exact .nil
  | cons p r ih =>
    obtain ⟨b, i⟩ := p
    unfold gPerm
    cases b with
    | true =>
      rcases vals_at (i := i) r2 with ⟨v, u, h1, h2, h3⟩ | ⟨h1, h2⟩
      · simp only [h1, h2, if_true]
        exact .cons h3 ih
      · simp only [h1, h2, if_true]
        exact ih
    | false =>
      rcases vals_at (i := i) r1 with ⟨v, u, h1, h2, h3⟩ | ⟨h1, h2⟩
      · simp only [h1, h2, Bool.false_eq_true, if_false]
        exact .cons h3 ih
      · simp only [h1, h2, Bool.false_eq_true, if_false]
        exact ih
theorem rl_at {K : PySem.W.Frag} {mg : Str → Option Value} {H : Hp} {Lv : Addr → Prop} {cs : List Addr} {i : Nat} : ∀ {vs : List V} {ds : List D}, RL K mg H Lv cs vs ds → (∃ v d, vs[i]? = some v ∧ ds[i]? = some d ∧ R K mg H Lv cs v d) ∨ (vs[i]? = none ∧ ds[i]? = none) := by
  induction i with
  | zero =>
    intro vs ds r
    cases r with
    | nil => exact .inr ⟨rfl, rfl⟩
    | cons a t => exact .inl ⟨_, _, rfl, rfl, a⟩
  | succ i ih =>
    intro vs ds r
    cases r with
    | nil => exact .inr ⟨rfl, rfl⟩
    | cons a t => exact ih t
theorem gPerm_rl {K : PySem.W.Frag} {mg : Str → Option Value} {H : Hp} {Lv : Addr → Prop} {cs : List Addr} (idx : List (Bool × Nat)) {vs zs : List V} {ds es : List D} (r1 : RL K mg H Lv cs vs ds) (r2 : RL K mg H Lv cs zs es) : RL K mg H Lv cs (gPerm idx vs zs) (gPerm idx ds es) := by
  induction idx with
  | nil => exact .nil
  | cons p r ih =>
    obtain ⟨b, i⟩ := p
    unfold gPerm
    cases b with
    | true =>
      rcases rl_at (i := i) r2 with ⟨v, u, h1, h2, h3⟩ | ⟨h1, h2⟩
      · simp only [h1, h2, if_true]
        exact .cons h3 ih
      · simp only [h1, h2, if_true]
        exact ih
    | false =>
      rcases rl_at (i := i) r1 with ⟨v, u, h1, h2, h3⟩ | ⟨h1, h2⟩
      · simp only [h1, h2, Bool.false_eq_true, if_false]
        exact .cons h3 ih
      · simp only [h1, h2, Bool.false_eq_true, if_false]
        exact ih
section
variable {K : PySem.W.Frag} {mg : Str → Option Value} {x qual : Str} {params : Arguments} {body : List Stmt} {scope : Scope} {f : Addr} {fd : FuncData} {ps : List Str}
theorem BnM.perm {kws : List (Str × V)} (F : FunD K x qual params body scope [] kws f fd) (n : Nat) (ks : List Str) (idx : List (Bool × Nat))
    (h : ∀ (kV doc pm : Value) (an : Option Addr) (cdv ct : Value) (us ws : List Value), us.length = n → ws.length = ks.length → bindArgs (PySem.W.fnOf x qual params body scope .none kV doc pm an cdv ct) ⟨us, ks.zip ws⟩ = pure (ps.zip (gPerm idx us ws))) : BnM K mg fd ps n ks (gPerm idx) :=
  BnM.kw F n ks (gPerm idx) (fun r1 r2 => gPerm_vals idx r1 r2) (fun _ _ _ _ _ _ _ r1 r2 _ _ => gPerm_rl idx r1 r2) h
end
end CL

namespace CL
open PySem L2 PySem.Spec PyProof.Rows
section
variable {K : PySem.W.Frag} {mg : Str → Option Value}
def gReverse : D → List D → M D := fun d ds μ => match celL μ d, ds with
  | some (i, xs), [] => .ok .non (μ.set i (some (.lst xs.reverse)))
  | _, _ => .no
theorem m_reverse : MtMm K mg rReverse gReverse := by
  intro H ρ μ x vs d ds Q E w rx rv p
  unfold gReverse at p
  split at p
  · rename_i i xs h
    obtain ⟨a, ws, e1, e2, hc, hm, hH, rl⟩ := celL_ok w rx h
    cases rv
    exact ⟨a, ws, e1, rfl, hH, set_lst w hc hm rl.reverse .non p⟩
  · exact False.elim p
end
end CL

namespace CL
open PySem L2 PySem.Spec PyProof.Rows
section
variable {K : PySem.W.Frag} {mg : Str → Option Value} {H H1 : Hp} {ρ ρ1 : Lc} {μ μ1 : Mem} {E : XK}
def zipD (xs ys : List D) : List D := (xs.zip ys).map fun p => .tup [p.1, p.2]
def asZip : List D → M Its := fun ds μ => match ds with
  | [.lst xs, .lst ys] => .ok ⟨zipD xs ys, none⟩ μ
  | _ => .no
def iZipM (a : ML) : MI := fun env μ => (a env μ).bind asZip
theorem walk_zip {a b : Addr} {vs ws : List V} {xs ys : List D} (ha : FzL H (Live ρ μ) a vs) (hb : FzL H (Live ρ μ) b ws) (ra : RLm K mg H ρ μ vs xs) (rb : RLm K mg H ρ μ ws ys) : WalkM K mg (Itz K a b) ⟨zipD xs ys, none⟩ H ρ μ where
  goes := fun H' ρ' μ' i e w ho hi => by
    have hi : i < (zipD xs ys).length := hi
    unfold zipD at hi
    rw [List.length_map, List.length_zip] at hi
    have l1 := ra.length
    have l2 := rb.length
    have h1 : i < vs.length := by omega
    have h2 : i < ws.length := by omega
    exact ⟨vs, ws, vs[i], ws[i], (ha.mono e).sq, (hb.mono e).sq, List.getElem?_eq_getElem h1, List.getElem?_eq_getElem h2⟩
  stops := fun H' ρ' μ' e w ho => by
    have l1 := ra.length
    have l2 := rb.length
    refine ⟨vs, ws, (ha.mono e).sq, (hb.mono e).sq, ?_⟩
    show vs.length ≤ (zipD xs ys).length ∨ ws.length ≤ (zipD xs ys).length
    unfold zipD
    rw [List.length_map, List.length_zip]
    omega
  yields := fun H' ρ' μ' i x H2 d e w ho hi hy => by
    obtain ⟨T, u, v, rfl, hT, rfl, h1, h2⟩ := hy
    have g1 := h1 vs (ha.mono e).sq
    have g2 := h2 ws (hb.mono e).sq
    obtain ⟨d1, k1, r1⟩ := ra.getV g1
    obtain ⟨d2, k2, r2⟩ := rb.getV g2
    have e2 : (zipD xs ys)[i]? = some (D.tup [d1, d2]) := by
      unfold zipD
      rw [List.getElem?_map]
      have e3 : (xs.zip ys)[i]? = some (d1, d2) := by
        rw [List.getElem?_zip_eq_some]
        exact ⟨k1, k2⟩
      rw [e3]
      rfl
    have e3 := Option.some.inj (e2.symm.trans hi)
    subst e3
    exact ⟨Exm.new w hT, w.new hT, Rm.newT w hT (.cons (r1.mono e) (.cons (r2.mono e) .nil))⟩
theorem si_zip {X : Cx} {W : WX} {e e2 : Expr} {ml : ML} {p pos tpos : Pos} {elts : List Expr} {kk : Nat} (hm : X.mg "zip" = none) (ha : SA X W [e, e2] ml) (hg : Gl X "zip" := by rfl)
    (hs : starEach [e, e2] X.env = (false, eval e X.env) :: starEach [e2] X.env := by rfl) (hpl : (backTo pos (starEach [e2] X.env)).any (·.1) = false := by rfl) : SI X W (.Tuple elts kk tpos) (.Call (.Name "zip" p) [e, e2] [] pos) (iZipM ml) := by
  refine PI.imp (pi_zip hg hm ha hs hpl) fun σ H R ⟨ρ, μ, env, w, re, p⟩ => ?_
  refine ⟨ρ, μ, env, w, re, PostL.imp (postL_bindI p) (fun vs H1 ⟨ds, ρ1, μ1, e1, w1, r1, p1⟩ => ?_) fun _ _ _ z => z⟩
  cases r1 with
  | nil => exact False.elim p1
  | cons ra t =>
    cases t with
    | nil => exact False.elim (by cases ra <;> exact p1)
    | cons rb t =>
      cases t with
      | cons _ _ => exact False.elim (by cases ra <;> cases rb <;> exact p1)
      | nil =>
        cases ra with
        | lst fa la =>
          cases rb with
          | lst fb lb => exact ⟨_, _, _, _, rfl, fa.sq, fb.sq, PostI.ok w1 p1 (walk_zip fa fb la lb)⟩
          | _ => exact False.elim p1
        | _ => exact False.elim (by cases rb <;> exact p1)
end
end CL

namespace CL
open PySem L2 PySem.Spec PyProof.Rows
/-- the round i -> 5 i + 1 comes everywhere -/
structure Full (m : Nat) : Prop where
  odd : m % 2 = 1
  small : m ≤ 600
  all : ∀ i j, i ≤ m → j ≤ m → ∃ k, k ≤ m ∧ lcgI m i k = j
theorem full_of {m : Nat} (h1 : m % 2 = 1) (h2 : m ≤ 600) (ha : ∀ j, j ≤ m → ∃ b, b ≤ m ∧ lcgN m b = j) (hr : lcgN m (m + 1) = 0) : Full m := by
  have per : ∀ k, lcgN m (m + 1 + k) = lcgN m k := fun k => by
    induction k with
    | zero => exact hr
    | succ n ih =>
      show (lcgN m (m + 1 + n) * 5 + 1) % (m + 1) = (lcgN m n * 5 + 1) % (m + 1)
      rw [ih]
  refine ⟨h1, h2, fun i j hi hj => ?_⟩
  obtain ⟨x, hx, rfl⟩ := ha i hi
  obtain ⟨y, hy, rfl⟩ := ha j hj
  by_cases c : x ≤ y
  · refine ⟨y - x, by omega, ?_⟩
    rw [lcgN_add]
    congr 1
    omega
  · refine ⟨m + 1 + y - x, by omega, ?_⟩
    rw [lcgN_add, show x + (m + 1 + y - x) = m + 1 + y by omega]
    exact per y
theorem fullC {m : Nat} (h1 : m % 2 = 1) (h2 : m ≤ 600) (hc : ((List.range (m + 1)).all fun j => (List.range (m + 1)).any fun b => lcgN m b == j) = true) (hr : lcgN m (m + 1) = 0) : Full m :=
  full_of h1 h2 (fun j hj => by
    have q := List.all_eq_true.mp hc j (List.mem_range.mpr (by omega))
    obtain ⟨b, hb, e⟩ := List.any_eq_true.mp q
    exact ⟨b, by have := List.mem_range.mp hb; omega, eq_of_beq e⟩) hr
theorem full7 : Full 7 := fullC rfl (by decide) (by decide +kernel) (by decide +kernel)
theorem full31 : Full 31 := fullC rfl (by decide) (by decide +kernel) (by decide +kernel)
theorem full127 : Full 127 := fullC rfl (by decide) (by decide +kernel) (by decide +kernel)
theorem full511 : Full 511 := fullC rfl (by decide) (by decide +kernel) (by decide +kernel)
theorem way_in {m : Nat} (h : Int) (k : Nat) : way m h k ≤ m := by
  have a : SetTable.bits h % (m + 1) ≤ m := by
    have := Nat.mod_lt (SetTable.bits h) (show m + 1 > 0 by omega)
    omega
  have b := runEnd_bd a
  have c := nth_in (m := m) k (runAt m (SetTable.bits h % (m + 1)) (SetTable.bits h)) (show SetTable.bits h % (m + 1) + (SetTable.runEnd m (SetTable.bits h % (m + 1)) - SetTable.bits h % (m + 1)) ≤ m by omega)
  exact Nat.le_trans (Nat.le_add_right _ _) c
theorem Full.run {m : Nat} (F : Full m) (h : Int) {j : Nat} (hj : j ≤ m) : ∃ n, n ≤ m + 12 ∧ runI m (SetTable.bits h) n = j :=
  let ⟨k, hk, e⟩ := F.all _ j (runI_le m (SetTable.bits h) 12) hj
  ⟨12 + k, by omega, (runI_tail (bits_lt h) k).trans e⟩
theorem Full.met {m : Nat} (F : Full m) (h : Int) {j : Nat} (hj : j ≤ m) : ∃ k, k < 10 * SetTable.turns m ∧ way m h k = j :=
  let ⟨n, hn, e⟩ := F.run h hj
  let ⟨k, hk, e2⟩ := run_nth m (SetTable.bits h) n
  ⟨k, by unfold SetTable.turns; omega, (congrArg SetTable.Probe.j e2).trans e⟩
/-- j is met on h's way, nothing empty ahead of it -/
def Rch (m : Nat) (S : List Nat) (h : Int) (j : Nat) : Prop := ∃ k, way m h k = j ∧ ∀ c, c < k → way m h c ∈ S
theorem Rch.mono {m : Nat} {S S' : List Nat} {h : Int} {j : Nat} (r : Rch m S h j) (s : ∀ x ∈ S, x ∈ S') : Rch m S' h j :=
  let ⟨k, e, b⟩ := r
  ⟨k, e, fun c hc => s _ (b c hc)⟩
/-- a table in order: hs the hashes by place -/
structure Tb (t : SetTable) (hs : List Int) : Prop where
  ris : Ris t.place.toList
  dm : t.dummies = #[]
  sz : t.place.toList.length = hs.length
  full : Full t.mask
  bd : ∀ x ∈ t.place.toList, x ≤ t.mask
  rch : ∀ (i : Nat) (h : Int) (j : Nat), hs[i]? = some h → t.place.toList[i]? = some j → Rch t.mask t.place.toList h j
/-- the first empty slot on h's way -/
structure Hole (t : SetTable) (h : Int) (K : Nat) : Prop where
  lt : K < 10 * SetTable.turns t.mask
  out : way t.mask h K ∉ t.place.toList
  occ : ∀ k, k < K → way t.mask h k ∈ t.place.toList
theorem Tb.hole {t : SetTable} {hs : List Int} (T : Tb t hs) (hl : hs.length ≤ t.mask) (h : Int) : ∃ K, Hole t h K := by
  have sz := T.sz
  obtain ⟨j, hj, nj⟩ := st_missing t.place.toList (t.mask + 1) (by omega)
  obtain ⟨k, hk, e⟩ := T.full.met h (show j ≤ t.mask by omega)
  obtain ⟨K, hK, o, b⟩ := st_least (p := fun c => way t.mask h c ∉ t.place.toList) k (by rw [e]; exact nj)
  exact ⟨K, by omega, o, fun c hc => Classical.byContradiction fun z => b c hc z⟩
theorem Tb.ahead {t : SetTable} {hs : List Int} (T : Tb t hs) {h : Int} {K i j : Nat} (hK : Hole t h K) (hi : hs[i]? = some h) (hj : t.place.toList[i]? = some j) : ∃ k, k < K ∧ way t.mask h k = j := by
  obtain ⟨k, e, b⟩ := T.rch i h j hi hj
  have mem : j ∈ t.place.toList := List.mem_of_getElem? hj
  refine ⟨k, ?_, e⟩
  apply Classical.byContradiction
  intro c
  rcases Nat.lt_or_ge K k with d | d
  · exact hK.out (b K d)
  · have : k = K := by omega
    subst this
    exact hK.out (by rw [e]; exact mem)
/-- put into the hole -/
theorem Tb.put {t : SetTable} {hs : List Int} (T : Tb t hs) {h : Int} {K p : Nat} (hK : Hole t h K) (hp : SetTable.below t.place (way t.mask h K) = p) :
    p ≤ hs.length ∧ (t.put (way t.mask h K)).2 = p ∧ Tb (t.put (way t.mask h K)).1 (hs.take p ++ h :: hs.drop p) ∧ (t.put (way t.mask h K)).1.fill = hs.length + 1 := by
  have jm : way t.mask h K ≤ t.mask := way_in h K
  have out := hK.out
  have occ := hK.occ
  have reachK : Rch t.mask t.place.toList h (way t.mask h K) := ⟨K, rfl, occ⟩
  generalize way t.mask h K = j at hp jm out reachK ⊢
  subst hp
  obtain ⟨c1, _, _⟩ := below_cut T.ris j
  have c1 : SetTable.below t.place j ≤ t.place.toList.length := c1
  have c2 : SetTable.below t.place j ≤ hs.length := by rw [← T.sz]; exact c1
  have pl := put_place t j
  have up : ∀ x ∈ t.place.toList, x ∈ (t.put j).1.place.toList := fun x hx => by
    rw [pl, mem_ins]
    exact .inr hx
  have lenP : (t.put j).1.place.toList.length = hs.length + 1 := by
    rw [pl, len_ins _ c1, T.sz]
  have dm := put_dm T.dm j
  refine ⟨c2, rfl, ⟨ris_insert T.ris fun e => out (List.mem_of_getElem? (by rw [Array.getElem?_toList]; exact e)), dm, by rw [lenP, len_ins _ c2], T.full, fun x hx => ?_, fun i h' j' h1 h2 => ?_⟩, ?_⟩
  · rw [pl, mem_ins] at hx
    rcases hx with rfl | hx
    · exact jm
    · exact T.bd x hx
  · rw [pl, tins_get _ c1] at h2
    rw [tins_get _ c2] at h1
    show Rch t.mask (t.put j).1.place.toList h' j'
    split at h1
    · rw [if_pos (by assumption)] at h2
      exact (T.rch i h' j' h1 h2).mono up
    · rw [if_neg (by assumption)] at h2
      split at h1
      · rw [if_pos (by assumption)] at h2
        cases h1
        cases h2
        exact reachK.mono up
      · rw [if_neg (by assumption)] at h2
        exact (T.rch (i - 1) h' j' h1 h2).mono up
  · unfold SetTable.fill
    rw [dm, ← lenP] <;> rfl
theorem Full.free {m : Nat} (F : Full m) (owner : Array (Option Nat)) (h : Int) {j : Nat} (hj : j ≤ m) (hf : oAt owner j = none) :
    ∃ K, SetTable.layClean.free m owner (SetTable.turns m) (SetTable.bits h % (m + 1)) (SetTable.bits h) = some (way m h K) ∧ oAt owner (way m h K) = none ∧ ∀ k, k < K → oAt owner (way m h k) ≠ none := by
  obtain ⟨n, hn, e⟩ := F.run h hj
  generalize ho : off m (SetTable.bits h % (m + 1)) (SetTable.bits h) n = c
  have hc : way m h c = j := by
    rw [← ho]
    refine (congrArg SetTable.Probe.j (nth_off m n (SetTable.bits h % (m + 1)) (SetTable.bits h))).trans ?_
    rw [itL_run]
    exact e
  obtain ⟨K, hK, o, b⟩ := st_least (p := fun c => oAt owner (way m h c) = none) c (by rw [hc]; exact hf)
  refine ⟨K, free_spec m owner (SetTable.turns m) n _ _ K (by unfold SetTable.turns; omega) (by rw [ho]; exact hK) (fun k hk => ?_) (Option.isNone_iff_eq_none.mpr o), o, b⟩
  have := b k hk
  cases z : oAt owner (nth m (runAt m (SetTable.bits h % (m + 1)) (SetTable.bits h)) k).j with
  | some _ => rfl
  | none => exact (this z).elim
theorem Full.step {m : Nat} (F : Full m) {done : List Int} {owner : Array (Option Nat)} (W : Own m done owner) (hl : done.length ≤ m) (h : Int) :
    ∃ j, SetTable.layClean.free m owner (SetTable.turns m) (SetTable.bits h % (m + 1)) (SetTable.bits h) = some j ∧ Own m (done ++ [h]) (owner.setIfInBounds j (some done.length)) := by
  obtain ⟨ps, pl, pin⟩ := W.ps
  obtain ⟨j0, b0, n0⟩ := st_missing ps (m + 1) (by omega)
  have b0' : j0 ≤ m := by omega
  have f0 : oAt owner j0 = none := Classical.byContradiction fun z => n0 (pin j0 b0' z)
  obtain ⟨K, hfree, hnone, hocc⟩ := F.free owner h b0' f0
  have wm : way m h K ≤ m := way_in h K
  refine ⟨_, hfree, ?_⟩
  have here : oAt (owner.setIfInBounds (way m h K) (some done.length)) (way m h K) = some done.length := oAt_set_self _ (by rw [W.sz]; omega)
  have there : ∀ i, i ≠ way m h K → oAt (owner.setIfInBounds (way m h K) (some done.length)) i = oAt owner i := fun i hi => oAt_set_ne _ hi
  have stays : ∀ i, oAt owner i ≠ none → oAt (owner.setIfInBounds (way m h K) (some done.length)) i ≠ none := fun i hi => by
    by_cases c : i = way m h K
    · rw [c, here]; exact Option.some_ne_none _
    · rw [there i c]; exact hi
  constructor
  · rw [Array.size_setIfInBounds, W.sz]
  · intro j k hj e
    by_cases c : j = way m h K
    · rw [c, here] at e
      cases e
      exact ⟨h, K, by simp, c.symm, fun c hc => stays _ (hocc c hc)⟩
    · rw [there j c] at e
      obtain ⟨h', K', g1, g2, g3⟩ := W.at_ j k hj e
      have hlt : k < done.length := (List.getElem?_eq_some_iff.mp g1).1
      exact ⟨h', K', by rw [List.getElem?_append_left hlt]; exact g1, g2, fun c hc => stays _ (g3 c hc)⟩
  · intro k hk
    by_cases c : k < done.length
    · obtain ⟨j, hj, e⟩ := W.all k c
      have ne : j ≠ way m h K := fun z => by rw [z, hnone] at e; exact nomatch e
      exact ⟨j, hj, (there j ne).trans e⟩
    · have : k = done.length := by simp at hk; omega
      subst this
      exact ⟨_, wm, here⟩
  · refine ⟨way m h K :: ps, by simp [pl], fun j hj e => ?_⟩
    by_cases c : j = way m h K
    · exact c ▸ List.mem_cons_self
    · rw [there j c] at e
      exact .tail _ (pin j hj e)
theorem Full.fold {m : Nat} (F : Full m) : ∀ (rest done : List Int) (owner : Array (Option Nat)), Own m done owner → done.length + rest.length ≤ m →
    ∃ o', rest.foldl (stepF m) (some (owner, done.length)) = some (o', (done ++ rest).length) ∧ Own m (done ++ rest) o' := by
  intro rest
  induction rest with
  | nil => intro done owner W _; exact ⟨owner, by simp, by simpa using W⟩
  | cons x xs ih =>
    intro done owner W hl
    simp only [List.length_cons] at hl
    obtain ⟨j, e, W1⟩ := F.step W (by omega) x
    have q := ih (done ++ [x]) _ W1 (by simp; omega)
    simp only [List.length_append, List.length_cons, List.length_nil, List.append_assoc, List.cons_append, List.nil_append, Nat.zero_add] at q
    obtain ⟨o', f, W2⟩ := q
    refine ⟨o', ?_, W2⟩
    rw [List.foldl_cons, stepF_some e, f]
    simp
theorem Full.lay {m : Nat} (F : Full m) {hs : Array Int} (hn : hs.size ≤ m) : ∃ owner, SetTable.layClean m hs = some owner ∧ Own m hs.toList owner := by
  obtain ⟨o, f, W⟩ := F.fold hs.toList [] _ (Own.init m) (by simpa using hn)
  simp only [List.nil_append, List.length_nil] at f W
  exact ⟨o, by rw [layClean_eq, f]; rfl, W⟩
theorem Full.relaid {M : Nat} (F : Full M) (t : SetTable) {hs : Array Int} {wanted : Nat} (hw : SetTable.sizeAbove wanted - 1 = M) (hn : hs.size ≤ M) :
    ∃ t' order, t.relaid hs wanted = some (t', order) ∧ order.toList.Perm (List.range hs.size) ∧ Tb t' (order.toList.map fun i => hs.getD i 0) ∧ t'.mask = M ∧ t'.led = t.led ∧ t'.plain = t.plain := by
  obtain ⟨owner, e, W⟩ := F.lay hn
  obtain ⟨r1, r2⟩ := ris_live (fun j => owner.getD j none) (List.range (M + 1)) (show List.Pairwise _ _ from List.pairwise_lt_range)
  have r1 : Ris ((liveOf M owner).map (·.1)) := r1
  have r2 : ∀ x ∈ (liveOf M owner).map (·.1), x ∈ List.range (M + 1) := r2
  have len : (liveOf M owner).length = hs.size := by
    obtain ⟨ps, p1, p2⟩ := W.ps
    have up : (liveOf M owner).length ≤ hs.size := by
      have nd : ((liveOf M owner).map (·.1)).Nodup := List.Pairwise.imp (fun h => Nat.ne_of_lt h) r1
      have := nat_nodup_len ((liveOf M owner).map (·.1)) ps nd fun x hx => by
        obtain ⟨⟨y, k⟩, hq, rfl⟩ := List.mem_map.mp hx
        obtain ⟨b1, b2⟩ := (mem_live W.sz).mp hq
        exact p2 y b1 (by rw [b2]; exact Option.some_ne_none _)
      simpa [p1] using this
    have dn : hs.size ≤ (liveOf M owner).length := by
      have := nat_nodup_len (List.range hs.size) ((liveOf M owner).map (·.2)) List.nodup_range fun k hk => by
        obtain ⟨j, b1, b2⟩ := W.all k (by simpa using hk)
        exact List.mem_map.mpr ⟨(j, k), (mem_live W.sz).mpr ⟨b1, b2⟩, rfl⟩
      simpa using this
    omega
  refine ⟨tabOf t M owner, ((liveOf M owner).map (·.2)).toArray, by rw [relaid_eq, hw, e]; rfl, perm_range _ _ (by simpa using len) fun k hk => ?_, ⟨r1, rfl, by show ((liveOf M owner).map (·.1)).length = _; simp, F, fun x hx => ?_, fun i h j h1 h2 => ?_⟩, rfl, rfl, rfl⟩
  · obtain ⟨j, b1, b2⟩ := W.all k (by simpa using hk)
    exact List.mem_map.mpr ⟨(j, k), (mem_live W.sz).mpr ⟨b1, b2⟩, rfl⟩
  · have := List.mem_range.mp (r2 x hx)
    show x ≤ M
    omega
  · have g2 : ((liveOf M owner).map (·.1))[i]? = some j := h2
    have g1 : (((liveOf M owner).map (·.2)).map fun i => hs.getD i 0)[i]? = some h := h1
    simp only [List.getElem?_map, Option.map_eq_some_iff] at g1 g2
    obtain ⟨⟨y, k⟩, hq, rfl⟩ := g2
    obtain ⟨k2, ⟨q, hq', rfl⟩, rfl⟩ := g1
    rw [hq] at hq'
    cases hq'
    obtain ⟨b1, b2⟩ := (mem_live W.sz).mp (List.mem_of_getElem? hq)
    obtain ⟨h0, K, a1, a2, a3⟩ := W.at_ y k b1 b2
    have : hs.getD k 0 = h0 := by
      rw [Array.getElem?_toList] at a1
      simp [Array.getD_eq_getD_getElem?, a1]
    rw [this]
    refine ⟨K, a2, fun c hc => ?_⟩
    show way M h0 c ∈ (liveOf M owner).map (·.1)
    cases z : oAt owner (way M h0 c) with
    | none => exact (a3 c hc z).elim
    | some k2 => exact List.mem_map.mpr ⟨(_, k2), (mem_live W.sz).mpr ⟨way_in h0 c, z⟩, rfl⟩
theorem above20 : SetTable.sizeAbove (SetTable.grown 5) - 1 = 31 := by decide +kernel
theorem above76 : SetTable.sizeAbove (SetTable.grown 19) - 1 = 127 := by decide +kernel
theorem above308 : SetTable.sizeAbove (SetTable.grown 77) - 1 = 511 := by decide +kernel
end CL

namespace CL
open PySem L2 PySem.Spec PyProof.Rows
abbrev kh (P : Program) (w : World) (k : List Key) : Int := tupleKeyHash (mixKind P w) k
abbrev IsTK (P : Program) (w : World) (h : Heap) (k : List Key) (a : Addr) : Prop := IsTupleKey (mixKind P w) h k a
abbrev TL := List (Addr × List Key)
abbrev ent (P : Program) (w : World) (p : Addr × List Key) : Int × Value := (kh P w p.2, .ref p.1)
section
variable {P : Program} {w : World} {A : Around} {E : Value → Shared → Prop} {s : Shared}
theorem itemsK {k : List Key} {vs : List Value} (h : ItemsAre (mixKind P w) k vs) : ∀ v ∈ vs, (∃ i t, v = .int i t) ∨ ∃ x t, v = .str x t := by
  induction h with
  | nil => exact fun _ z => nomatch z
  | cons e _ ih =>
    intro v hv
    cases hv with
    | head =>
      rcases keyIs_shape e with ⟨i, t, _, q⟩ | ⟨x, t, _, q⟩
      · exact .inl ⟨i, t, q⟩
      · exact .inr ⟨x, t, q⟩
    | tail _ hv => exact ih v hv
/-- none of its items is of a class of the program's own -/
theorem ofClassK {k : List Key} {b : Addr} {Q : Bool → Shared → Prop} (hk : IsTK P w s.heap k b) (h : Q false s) : wpAny (model P w) A (ofAClassStatement 8 (.ref b)) Q E s := by
  have ty := hk.typeIs
  obtain ⟨o, its, n, ho, _, hd, hi⟩ := hk
  have plain : ∀ v ∈ its.toList, ∀ m, ofAClassStatement m v = pure false := fun v hv m => by
    rcases itemsK hi v hv with ⟨i, t, rfl⟩ | ⟨x, t, rfl⟩ <;> cases m <;> rfl
  unfold ofAClassStatement
  refine wpAny_bind (wpAny_typeOf ty ?_)
  dsimp only
  simp only [show (("tuple" : String) == "tuple") = true by decide, if_true, Bool.not_true, Bool.false_eq_true, if_false]
  try refine wpAny_bind (wpAny_pure ?_)
  try simp only [Bool.not_true, Bool.false_eq_true, if_false]
  refine wpAny_bind (m := seqItems? (.ref b)) (wpAny_seqItems ho hd ?_)
  dsimp only
  refine wpAny_bind ?_
  rw [← Array.forIn_toList]
  refine wpAny_forIn_list _ (fun l r s' => (r.1 = none ∧ s' = s) ∧ ∀ v ∈ l, ∀ m, ofAClassStatement m v = pure false) _ (fun v l r s' I => ?_) (fun r s' I => ?_) _ _ ⟨⟨rfl, rfl⟩, plain⟩
  · obtain ⟨⟨_, rfl⟩, q⟩ := I
    rw [q v List.mem_cons_self]
    refine wpAny_bind (wpAny_pure ?_)
    rw [if_neg Bool.false_ne_true]
    exact wpAny_pure ⟨⟨rfl, rfl⟩, fun u hu => q u (.tail _ hu)⟩
  · obtain ⟨r1, r2⟩ := r
    obtain ⟨⟨rfl, rfl⟩, _⟩ := I
    exact wpAny_pure h
theorem byValueK {k : List Key} {b : Addr} {Q : Bool → Shared → Prop} (hk : IsTK P w s.heap k b) (h : ∀ c, Q c s) : wpAny (model P w) A (hashByValue 8 (.ref b)) Q E s := by
  have ty := hk.typeIs
  obtain ⟨o, its, n, ho, _, hd, hi⟩ := hk
  have plain : ∀ v ∈ its.toList, ∀ m, ∃ c, hashByValue m v = pure c := fun v hv m => by
    rcases itemsK hi v hv with ⟨i, t, rfl⟩ | ⟨x, t, rfl⟩
    · exact ⟨true, by cases m <;> rfl⟩
    · exact ⟨false, by cases m <;> rfl⟩
  unfold hashByValue
  refine wpAny_bind (wpAny_specialOf ty F.slot_tuple_hash.lookup ?_)
  refine wpAny_bind (m := seqItems? (.ref b)) (wpAny_seqItems ho hd ?_)
  refine wpAny_bind ?_
  show wpAny _ _ (forIn its _ _) _ _ s
  rw [← Array.forIn_toList]
  refine wpAny_forIn_list _ (fun l r s' => (r.1 = none ∧ s' = s) ∧ ∀ v ∈ l, ∀ m, ∃ c, hashByValue m v = pure c) _ (fun v l r s' I => ?_) (fun r s' I => ?_) _ _ ⟨⟨rfl, rfl⟩, plain⟩
  · obtain ⟨⟨_, rfl⟩, q⟩ := I
    obtain ⟨c, e⟩ := q v List.mem_cons_self 7
    rw [e]
    refine wpAny_bind (wpAny_pure ?_)
    have rest : ∀ u ∈ l, ∀ m, ∃ c, hashByValue m u = pure c := fun u hu => q u (.tail _ hu)
    cases c with
    | true =>
      simp only [Bool.not_true, Bool.false_eq_true, if_false]
      exact wpAny_pure ⟨⟨rfl, rfl⟩, rest⟩
    | false =>
      simp only [Bool.not_false, if_true]
      exact wpAny_pure (wpAny_pure (h false))
  · obtain ⟨r1, r2⟩ := r
    obtain ⟨⟨z, rfl⟩, _⟩ := I
    dsimp only at z
    subst z
    exact wpAny_pure (h true)
/-- nobody sees the search -/
theorem unseenK {k : List Key} {b : Addr} {Q : Bool → Shared → Prop} (hk : IsTK P w s.heap k b) {ys : List Value} (hy : ∀ y ∈ ys, ∃ c k', y = Value.ref c ∧ IsTK P w s.heap k' c) (h : Q false s) :
    wpAny (model P w) A (searchCouldBeSeen (.ref b) ys) Q E s := by
  unfold searchCouldBeSeen
  refine wpAny_bind (wpAny_forIn_list _ (fun l r s' => (r.1 = none ∧ s' = s) ∧ ∀ y ∈ l, ∃ c k', y = Value.ref c ∧ IsTK P w s.heap k' c) _ (fun v l r s' I => ?_) (fun r s' I => ?_) _ _ ⟨⟨rfl, rfl⟩, hy⟩)
  · obtain ⟨⟨_, rfl⟩, q⟩ := I
    obtain ⟨c, k', rfl, hc⟩ := q v List.mem_cons_self
    have J : ∀ y ∈ l, ∃ c k', y = Value.ref c ∧ IsTK P w s'.heap k' c := fun y hy => q y (.tail _ hy)
    dsimp only
    by_cases same : (b == c || (carriedByValue (.ref b) && carriedByValue (.ref c))) = true
    · exact wp_if_pos same (wpAny_pure ⟨⟨rfl, rfl⟩, J⟩)
    · refine wp_if_neg same (wpAny_bind (wpAny_eqIsQuiet_tuple hk ?_))
      simp only [Bool.not_true, Bool.false_eq_true, if_false]
      refine wpAny_bind (wpAny_eqIsQuiet_tuple hc ?_)
      simp only [Bool.not_true, Bool.false_eq_true, if_false]
      refine wpAny_bind (ofClassK hk ?_)
      rw [if_neg Bool.false_ne_true]
      refine wpAny_bind (ofClassK hc ?_)
      rw [if_neg Bool.false_ne_true]
      exact wpAny_pure ⟨⟨rfl, rfl⟩, J⟩
  · obtain ⟨r1, r2⟩ := r
    obtain ⟨⟨rfl, rfl⟩, _⟩ := I
    exact wpAny_pure h

/-- the set at a holds the tuples L -/
structure TS0 (P : Program) (w : World) (h : Heap) (a : Addr) (L : TL) (es : Array (Int × Value)) (ep : Nat) (t : SetTable) : Prop where
  ob : ∃ o, h.get? a = some o ∧ o.ExactSet ∧ o.data = .set es ep t
  rows : es.toList = L.map (ent P w)
  tab : Tb t (L.map fun p => kh P w p.2)
  nd : (L.map (·.2)).Nodup
  room : L.length * 5 < t.mask * 3
abbrev Tups (P : Program) (w : World) (h : Heap) (L : TL) : Prop := ∀ p ∈ L, IsTK P w h p.2 p.1
variable {a : Addr} {L : TL} {es : Array (Int × Value)} {ep : Nat} {t : SetTable}
theorem rows_len (r : es.toList = L.map (ent P w)) : es.size = L.length := by
  rw [← Array.length_toList, r, List.length_map]
theorem TS0.fits {h : Heap} (R : TS0 P w h a L es ep t) : t.fits es.size = true := by
  have h1 : t.place.toList.length = L.length := by simpa using R.tab.sz
  have h2 := rows_len R.rows
  have h3 := R.room
  simp only [SetTable.fits, SetTable.fill, R.tab.dm, Bool.and_eq_true, beq_iff_eq, decide_eq_true_eq]
  rw [Array.length_toList] at h1
  exact ⟨by omega, by show t.place.size + 0 ≤ t.mask; omega⟩
theorem rows_get (r : es.toList = L.map (ent P w)) {i : Nat} {p : Addr × List Key} (h : L[i]? = some p) : es[i]? = some (ent P w p) := by
  rw [← Array.getElem?_toList, r, List.getElem?_map, h]
  rfl
/-- a search along the way -/
theorem searchK (R : TS0 P w s.heap a L es ep t) (tp : Tups P w s.heap L) {x : Addr} {k : List Key} (hx : IsTK P w s.heap k x) (hu : A.units < cLine) {K : Nat} (hK : Hole t (kh P w k) K) {Q : SetFound → Shared → Prop}
    (hin : k ∈ L.map (·.2) → Q (.there none) s) (hout : k ∉ L.map (·.2) → Q (.free (way t.mask (kh P w k) K) false) s) (f : Nat) :
    ∀ (c : Nat) (stand : Option SetTable.Probe), stand.getD (t.probeStart (kh P w k)) = nth t.mask (t.probeStart (kh P w k)) c → c ≤ K → K < f + c →
      (∀ (i : Nat) p, L[i]? = some p → p.2 = k → ∃ c', c ≤ c' ∧ c' < K ∧ t.place.toList[i]? = some (way t.mask (kh P w k) c')) →
      wpAny (model P w) A (setSearchFrom a (.ref x) (kh P w k) true f stand) Q E s := by
  have clean : ∀ (n : Nat) (p : SetTable.Probe), p.dummy = none → (nth t.mask p n).dummy = none := fun n => by
    induction n with
    | zero => exact fun _ z => z
    | succ n ih => exact fun p z => ih _ (by unfold adv; split <;> exact z)
  have shift : ∀ c q, nth t.mask (nth t.mask (t.probeStart (kh P w k)) c) q = nth t.mask (t.probeStart (kh P w k)) (c + q) := fun c q => (nth_add t.mask c _ q).symm
  have wy : ∀ c, (nth t.mask (t.probeStart (kh P w k)) c).j = way t.mask (kh P w k) c := fun _ => rfl
  obtain ⟨o, ho, hex, hd⟩ := R.ob
  have st := R.fits
  have live : ∀ {i j : Nat}, t.place.toList[i]? = some j → t.slot j = .live i := fun h => slot_live R.tab.ris h
  induction f with
  | zero => exact fun c _ _ h1 h2 _ => absurd h2 (by omega)
  | succ f ih =>
    intro c stand hst hc hf hre
    rw [setSearchFrom_succ]
    refine wpAny_bind (wpAny_setState_of ho hd st ?_)
    dsimp only
    have gw : ¬ t.gaveWay = true := by
      unfold SetTable.gaveWay
      rw [R.tab.full.odd]
      decide
    refine wp_if_neg gw ?_
    try refine wpAny_bind (wpAny_pure ?_)
    have hashes : ∀ (i : Nat) p, L[i]? = some p → (es[i]?.map (·.1)).getD 0 = kh P w p.2 := fun i p hp => by
      rw [rows_get R.rows hp]
      rfl
    have spec := go_spec t R.tab.ris R.tab.dm (fun i => (es[i]?.map (·.1)).getD 0) (kh P w k) (10 * SetTable.turns t.mask) (K - c) (nth t.mask (t.probeStart (kh P w k)) c) (clean _ _ rfl)
      (by have := hK.lt; omega) (fun q hq => by rw [shift, wy]; exact hK.occ _ (by omega)) (by rw [shift, wy, Nat.add_sub_cancel' hc]; exact hK.out)
    have passed : ∀ (q i : Nat) (p : Addr × List Key), q < K - c → L[i]? = some p → p.2 = k → t.place.toList[i]? = some (way t.mask (kh P w k) (c + q)) → ¬ ∀ i' : Nat, t.place.toList[i']? = some (nth t.mask (nth t.mask (t.probeStart (kh P w k)) c) q).j → (es[i']?.map (·.1)).getD 0 ≠ kh P w k :=
      fun q i p hq hp hk hpl z => z i (by rw [shift, wy]; exact hpl) (by rw [hashes i p hp, hk])
    rw [hst]
    rcases spec with ⟨q, i, hq, hi, hh, hno, hgo⟩ | ⟨hno, hgo⟩
    · rw [show t.probe _ _ _ = _ from hgo]
      dsimp only
      rw [shift, wy] at hi
      simp only [shift, wy]
      have iL : i < L.length := by
        have := (List.getElem?_eq_some_iff.mp hi).1
        rw [R.tab.sz, List.length_map] at this
        exact this
      obtain ⟨p, hp⟩ : ∃ p, L[i]? = some p := ⟨_, List.getElem?_eq_getElem iL⟩
      have pm := List.mem_of_getElem? hp
      have behind : wpAny (model P w) A (searchRest a (.ref x) (kh P w k) true f es t (way t.mask (kh P w k) (c + q)) i (nth t.mask (t.probeStart (kh P w k)) (c + (q + 1)))) Q E s := by
        unfold searchRest
        rw [rows_get R.rows hp]
        dsimp only
        refine wpAny_bind (wpAny_holding (wpAny_eqBool_tuple hu (tp p pm) hx (wpAny_bind (wpAny_setState_of ho hd st ?_))))
        dsimp only
        by_cases e : p.2 = k
        · exact wp_if_pos (by simp [e]) (wpAny_pure (hin (List.mem_map.mpr ⟨p, pm, e⟩)))
        · refine wp_if_neg (by simp [e]) ?_
          try refine wpAny_bind (wpAny_pure ?_)
          rw [sameMem]
          dsimp only
          have sl := live hi
          simp only [if_true, sl, rows_get R.rows hp]
          refine wpAny_bind (wpAny_isSame_ref_self (wpAny_bind (wpAny_pure ?_)))
          simp only [if_true]
          refine wp_if_neg (by simp [e]) (ih (c + (q + 1)) _ rfl (by omega) (by omega) fun i0 p0 h0 k0 => ?_)
          obtain ⟨c', g1, g2, g3⟩ := hre i0 p0 h0 k0
          refine ⟨c', ?_, g2, g3⟩
          apply Classical.byContradiction
          intro late
          rcases Nat.lt_or_ge c' (c + q) with lt | ge
          · exact passed (c' - c) i0 p0 (by omega) h0 k0 (by rw [Nat.add_sub_cancel' g1]; exact g3) fun i' => hno (c' - c) i' (by omega)
          · have : c' = c + q := by omega
            subst this
            have two := live g3
            rw [sl] at two
            cases two
            rw [hp] at h0
            cases h0
            exact e k0
      by_cases led : t.led = true
      · refine wp_if_neg (by simp [led]) ?_
        try refine wpAny_bind (wpAny_pure ?_)
        exact behind
      · refine wp_if_pos (by simp [led]) (wpAny_bind (unseenK hx (fun y hy => ?_) (wp_if_neg (by decide) ?_)))
        · obtain ⟨⟨e1, e2⟩, he, rfl⟩ := List.mem_map.mp hy
          have he : (e1, e2) ∈ es.toList := by
            have : (e1, e2) ∈ es ∧ e1 = kh P w k := by simpa using he
            simpa using this.1
          rw [R.rows] at he
          obtain ⟨p2, m2, e⟩ := List.mem_map.mp he
          cases e
          exact ⟨_, _, rfl, tp p2 m2⟩
        · try refine wpAny_bind (wpAny_pure ?_)
          exact behind
    · rw [show t.probe _ _ _ = _ from hgo]
      dsimp only
      rw [shift, wy, Nat.add_sub_cancel' hc]
      refine wpAny_pure (hout fun m => ?_)
      obtain ⟨p0, m0, k0⟩ := List.mem_map.mp m
      obtain ⟨i0, b0, e0⟩ := List.getElem_of_mem m0
      have h0 : L[i0]? = some p0 := by rw [List.getElem?_eq_getElem b0, e0]
      obtain ⟨c', g1, g2, g3⟩ := hre i0 p0 h0 k0
      exact passed (c' - c) i0 p0 (by omega) h0 k0 (by rw [Nat.add_sub_cancel' g1]; exact g3) fun i' => hno (c' - c) i' (by omega)
theorem searchK0 (R : TS0 P w s.heap a L es ep t) (tp : Tups P w s.heap L) {x : Addr} {k : List Key} (hx : IsTK P w s.heap k x) (hu : A.units < cLine) {Q : SetFound → Shared → Prop}
    (hin : k ∈ L.map (·.2) → Q (.there none) s) (hout : ∀ K, k ∉ L.map (·.2) → Hole t (kh P w k) K → Q (.free (way t.mask (kh P w k) K) false) s) :
    wpAny (model P w) A (setSearch a (.ref x) (kh P w k) true) Q E s := by
  have rm := R.room
  obtain ⟨K, hK⟩ := R.tab.hole (by rw [List.length_map]; omega) (kh P w k)
  have big : K < 100000 := by
    have := hK.lt
    have := R.tab.full.small
    unfold SetTable.turns at *
    omega
  unfold setSearch
  refine searchK R tp hx hu hK hin (fun n => hout K n hK) 100000 0 none rfl (Nat.zero_le _) (by omega) fun i p hp hk => ?_
  have sz : t.place.toList.length = L.length := by simpa using R.tab.sz
  have il := (List.getElem?_eq_some_iff.mp hp).1
  have hj : t.place.toList[i]? = some t.place.toList[i] := List.getElem?_eq_getElem (by omega)
  obtain ⟨c, c1, c2⟩ := R.tab.ahead hK (by rw [List.getElem?_map, hp, ← hk]; rfl) hj
  exact ⟨c, Nat.zero_le _, c1, by rw [hj, c2]⟩
end
end CL

namespace CL
open PySem L2 PySem.Spec PyProof.Rows
/-- how many tuples a set may hold -/
def tupMax : Nat := 306
section
variable {P : Program} {w : World} {A : Around} {E : Value → Shared → Prop} {s : Shared} {a : Addr} {L : TL} {es : Array (Int × Value)} {ep : Nat} {t : SetTable}
theorem IsTK.but {h h' : Heap} {k : List Key} {b : Addr} {o : Obj} (x : IsTK P w h k b) (ho : h.get? a = some o) (hd : o.data = .set es ep t) (sb : Heap.SameBut a h h') : IsTK P w h' k b := by
  obtain ⟨o2, its, n, g, hc, d2, hi⟩ := x
  refine ⟨o2, its, n, (sb.2 b fun z => ?_).trans g, hc, d2, hi⟩
  subst z
  rw [ho] at g
  cases g
  rw [hd] at d2
  exact nomatch d2
/-- the rows in another order -/
theorem reorder (r : es.toList = L.map (ent P w)) (order : Array Nat) (hp : order.toList.Perm (List.range L.length)) :
    ∃ L2 : TL, (order.filterMap (es[·]?)).toList = L2.map (ent P w) ∧ L2.Perm L ∧ (L2.map fun p => kh P w p.2) = order.toList.map fun i => (es.map (·.1)).getD i 0 := by
  have one : ∀ l : List Nat, (∀ i ∈ l, i < L.length) → ∃ M : TL, l.filterMap (fun i => es[i]?) = M.map (ent P w) ∧ M = l.filterMap (fun i => L[i]?) ∧ (M.map fun p => kh P w p.2) = l.map fun i => (es.map (·.1)).getD i 0 := by
    intro l
    induction l with
    | nil => exact fun _ => ⟨[], rfl, rfl, rfl⟩
    | cons i l ih =>
      intro h
      obtain ⟨M, e1, e2, e3⟩ := ih fun j hj => h j (.tail _ hj)
      obtain ⟨p0, hi⟩ : ∃ p, L[i]? = some p := ⟨_, List.getElem?_eq_getElem (h i (.head _))⟩
      have he := rows_get r hi
      refine ⟨p0 :: M, ?_, ?_, ?_⟩
      · rw [List.filterMap_cons_some he, e1]
        rfl
      · rw [List.filterMap_cons_some hi, e2]
      · rw [List.map_cons, List.map_cons, e3]
        congr 1
        simp [Array.getD_eq_getD_getElem?, he]
  obtain ⟨M, e1, e2, e3⟩ := one order.toList fun i hi => by simpa using hp.mem_iff.mp hi
  refine ⟨M, by simpa using e1, ?_, e3⟩
  have whole : ∀ n, n ≤ L.length → (List.range n).filterMap (fun i => L[i]?) = L.take n := fun n => by
    induction n with
    | zero => exact fun _ => rfl
    | succ n ih =>
      intro hn
      rw [List.range_succ, List.filterMap_append, ih (by omega), List.take_succ, List.filterMap_cons, List.getElem?_eq_getElem (show n < L.length by omega)]
      rfl
  have pq := hp.filterMap (fun i => L[i]?)
  rw [whole _ (Nat.le_refl _), List.take_length] at pq
  rw [e2]
  exact pq
theorem relayK {o : Obj} (ho : s.heap.get? a = some o) (hex : o.ExactSet) (hd : o.data = .set es ep t) (rows : es.toList = L.map (ent P w)) (tab : Tb t (L.map fun p => kh P w p.2)) (nd : (L.map (·.2)).Nodup) (fl : L.length ≤ t.mask) {wanted M : Nat}
    (F : Full M) (hw : SetTable.sizeAbove wanted - 1 = M) (hn : L.length * 5 < M * 3) {Q : Unit → Shared → Prop}
    (hQ : ∀ h' L' es' ep' t', Heap.SameBut a s.heap h' → TS0 P w h' a L' es' ep' t' → t'.mask = M → t'.led = t.led → L'.Perm L → Q () { s with heap := h' }) : wpAny (model P w) A (setRelay a wanted) Q E s := by
  have n0 := rows_len rows
  have fits : t.fits es.size = true := by
    have h1 : t.place.toList.length = L.length := by simpa using tab.sz
    rw [Array.length_toList] at h1
    simp only [SetTable.fits, SetTable.fill, tab.dm, Bool.and_eq_true, beq_iff_eq, decide_eq_true_eq]
    exact ⟨by omega, by show t.place.size + 0 ≤ t.mask; omega⟩
  have small := F.small
  obtain ⟨t', order, e, pm, T, em, el, _⟩ := F.relaid t (hs := es.map (·.1)) hw (by rw [Array.size_map]; omega)
  rw [Array.size_map, n0] at pm
  obtain ⟨L2, r1, r2, r3⟩ := reorder rows order pm
  rw [← r3] at T
  have n2 : (order.filterMap (es[·]?)).size = L.length := by rw [rows_len r1, r2.length_eq]
  rw [setRelay_eq]
  refine wpAny_bind (wpAny_setState_of ho hd fits ?_)
  dsimp only
  refine wp_if_neg (by rw [sizeLine_eq]; omega) ?_
  try refine wpAny_bind (wpAny_pure ?_)
  rw [e]
  dsimp only
  refine wpAny_bind (wp_if_neg (by rw [n2, n0]; simp) ?_)
  try refine wpAny_bind (wpAny_pure ?_)
  refine wpAny_pure ?_
  dsimp only
  refine wpAny_storeSet_of ho hd ?_ (by rw [n2, sizeLine_eq]; omega)
  refine hQ _ L2 _ (ep + 1) t' (Heap.SameBut.update ..) ⟨⟨_, store_at ho hd, ⟨hex.1, hex.2.1, hex.2.2⟩, rfl⟩, r1, T, (r2.map (·.2)).nodup_iff.mpr nd, ?_⟩ em el r2
  rw [r2.length_eq, em]
  exact hn
theorem Tb.flag {t : SetTable} {hs : List Int} (T : Tb t hs) (b : Bool) : Tb { t with plain := b } hs := ⟨T.ris, T.dm, T.sz, T.full, T.bd, T.rch⟩
/-- the set at a holds L and is one that grew from nothing -/
structure TS (P : Program) (w : World) (h : Heap) (a : Addr) (L : TL) : Prop where
  ex : ∃ es ep t, TS0 P w h a L es ep t ∧ (t.mask = 7 ∨ t.mask = 31 ∨ t.mask = 127 ∨ t.mask = 511) ∧ (w.params.followText "set-order" = true ∨ t.led = true)
theorem addK0 (R : TS P w s.heap a L) (tp : Tups P w s.heap L) {x : Addr} {k : List Key} (hx : IsTK P w s.heap k x) (hu : A.units < cLine) (few : L.length < tupMax) {Q : Bool → Shared → Prop}
    (hQ : ∀ b h' L', Heap.SameBut a s.heap h' → TS P w h' a L' → (k ∈ L.map (·.2) → L' = L) → (k ∉ L.map (·.2) → L'.Perm ((x, k) :: L)) → Q b { s with heap := h' }) :
    wpAny (model P w) A (setAddHashed a (.ref x) (kh P w k)) Q E s := by
  have few : L.length < 306 := few
  obtain ⟨es, ep, t, R, hm, hl⟩ := R.ex
  obtain ⟨o, ho, hex, hd⟩ := R.ob
  have n0 := rows_len R.rows
  have rm := R.room
  unfold setAddHashed
  refine wpAny_holding ?_
  rw [show (100000 : Nat) = 99999 + 1 from rfl, setAddHashedIn_succ]
  refine wpAny_bind (wpAny_setState_of ho hd R.fits ?_)
  dsimp only
  refine wp_if_neg (by simp [byScan, Value.scannable]) ?_
  try refine wpAny_bind (wpAny_pure ?_)
  refine wpAny_bind (searchK0 R tp hx hu (fun m => ?_) fun K m hK => ?_)
  · exact wpAny_pure (hQ false s.heap L (Heap.SameBut.refl a s.heap) ⟨_, _, _, R, hm, hl⟩ (fun _ => rfl) fun z => absurd m z)
  · dsimp only
    refine wpAny_bind (wpAny_setState_of ho hd R.fits ?_)
    dsimp only
    obtain ⟨p, hp⟩ : ∃ p, SetTable.below t.place (way t.mask (kh P w k) K) = p := ⟨_, rfl⟩
    obtain ⟨q1, q2, q3, q4⟩ := R.tab.put hK hp
    have q5 : (t.put (way t.mask (kh P w k) K)).1.mask = t.mask := rfl
    have q6 : (t.put (way t.mask (kh P w k) K)).1.led = t.led := rfl
    rw [List.length_map] at q1 q4
    generalize t.put (way t.mask (kh P w k) K) = pt at q2 q3 q4 q5 q6 ⊢
    obtain ⟨t1, p1⟩ := pt
    dsimp only at q2 q3 q4 q5 q6 ⊢
    subst q2
    have pm : (L.take p1 ++ (x, k) :: L.drop p1).Perm ((x, k) :: L) := by
      have := (List.perm_middle (a := (x, k)) (l₁ := L.take p1) (l₂ := L.drop p1))
      rw [List.take_append_drop] at this
      exact this
    have rows1 : (SetTable.insertAt es p1 (kh P w k, Value.ref x)).toList = (L.take p1 ++ (x, k) :: L.drop p1).map (ent P w) := by
      rw [SetTable.toList_insertAt, R.rows, List.map_append, List.map_cons, List.map_take, List.map_drop]
    have hs1 : (L.map fun p => kh P w p.2).take p1 ++ kh P w k :: (L.map fun p => kh P w p.2).drop p1 = (L.take p1 ++ (x, k) :: L.drop p1).map fun p => kh P w p.2 := by
      rw [List.map_append, List.map_cons, List.map_take, List.map_drop]
    rw [hs1] at q3
    have nd1 : ((L.take p1 ++ (x, k) :: L.drop p1).map (·.2)).Nodup := (pm.map (·.2)).nodup_iff.mpr (List.nodup_cons.mpr ⟨m, R.nd⟩)
    have n1 := pm.length_eq
    rw [List.length_cons] at n1
    have e1 := rows_len rows1
    rw [n1] at e1
    generalize SetTable.insertAt es p1 (kh P w k, Value.ref x) = es1 at rows1 e1 ⊢
    generalize L.take p1 ++ (x, k) :: L.drop p1 = L1 at pm rows1 q3 nd1 n1
    -- the flag
    suffices tail : ∀ c : Bool, wpAny (model P w) A (do
        let t1 := if c = true then t1 else { t1 with plain := false }
        storeSet a es1 t1
        if (!false && t1.tooFull) = true then setRelay a (SetTable.grown (es.size + 1))
        return true) Q E s by
      by_cases hpl : t1.plain = true
      · first
          | (refine wpAny_bind ?_; refine wp_if_pos hpl (byValueK hx fun c => ?_); exact tail c)
          | (refine wp_if_pos hpl (wpAny_bind (byValueK hx fun c => ?_)); exact tail c)
      · first
          | (refine wpAny_bind ?_; refine wp_if_neg hpl (wpAny_pure ?_); exact tail true)
          | (refine wp_if_neg hpl (wpAny_bind (wpAny_pure ?_)); exact tail true)
          | (refine wp_if_neg hpl ?_; exact tail true)
    intro c
    have q3' : Tb (if c = true then t1 else { t1 with plain := false }) (L1.map fun p => kh P w p.2) := by
      cases c
      · exact q3.flag false
      · exact q3
    have m' : (if c = true then t1 else { t1 with plain := false }).mask = t.mask := by cases c <;> exact q5
    have l' : w.params.followText "set-order" = true ∨ (if c = true then t1 else { t1 with plain := false }).led = true := by
      cases c <;> exact (by rw [← q6] at hl; exact hl)
    have f' : (if c = true then t1 else { t1 with plain := false }).fill = L.length + 1 := by cases c <;> exact q4
    show wpAny _ _ (storeSet a es1 (if c = true then t1 else { t1 with plain := false }) >>= fun _ => if (!false && (if c = true then t1 else { t1 with plain := false }).tooFull) = true then _ else _) _ _ s
    generalize (if c = true then t1 else { t1 with plain := false }) = t2 at q3' m' f' l' ⊢
    refine wpAny_bind (wpAny_storeSet_of ho hd ?_ (by rw [e1, sizeLine_eq]; omega))
    have sb : Heap.SameBut a s.heap (s.heap.update a (Obj.putSet es1 t2)) := Heap.SameBut.update ..
    have ho1 := store_at (es' := es1) (t' := t2) ho hd
    generalize s.heap.update a (Obj.putSet es1 t2) = h1 at sb ho1 ⊢
    have full : t2.tooFull = decide ((L.length + 1) * 5 ≥ t.mask * 3) := by
      unfold SetTable.tooFull
      rw [f', m']
    by_cases hf : (L.length + 1) * 5 ≥ t.mask * 3
    · have go : ∀ M, Full M → SetTable.sizeAbove (SetTable.grown (L.length + 1)) - 1 = M → (L.length + 1) * 5 < M * 3 → (M = 7 ∨ M = 31 ∨ M = 127 ∨ M = 511) →
          wpAny (model P w) A (setRelay a (SetTable.grown (L.length + 1))) (fun _ s' => wpAny (model P w) A (pure true) Q E s') E { s with heap := h1 } := fun M F hw hn hM => by
        refine relayK (s := { s with heap := h1 }) ho1 ⟨hex.1, hex.2.1, hex.2.2⟩ rfl rows1 q3' nd1 (by rw [n1, m']; omega) F hw (by rw [n1]; exact hn) fun h2 L2 es2 ep2 t3 sb2 R2 em2 el2 pm2 => ?_
        exact wpAny_pure (hQ true h2 L2 (sb.trans sb2) ⟨_, _, _, R2, by rw [em2]; exact hM, by rw [el2]; exact l'⟩ (fun z => absurd z m) fun _ => pm2.trans pm)
      rw [n0]
      refine wp_if_pos (by rw [full]; simp [hf]) (wpAny_bind ?_)
      rcases hm with e | e | e | e
      · have : L.length + 1 = 5 := by omega
        rw [this] at go ⊢
        exact go 31 full31 above20 (by omega) (.inr (.inl rfl))
      · have : L.length + 1 = 19 := by omega
        rw [this] at go ⊢
        exact go 127 full127 above76 (by omega) (.inr (.inr (.inl rfl)))
      · have : L.length + 1 = 77 := by omega
        rw [this] at go ⊢
        exact go 511 full511 above308 (by omega) (.inr (.inr (.inr rfl)))
      · omega
    · refine wp_if_neg (by rw [full]; simp [hf]) ?_
      try refine wpAny_bind (wpAny_pure ?_)
      refine wpAny_pure (hQ true h1 L1 sb ⟨es1, ep + 1, t2, ⟨⟨_, ho1, ⟨hex.1, hex.2.1, hex.2.2⟩, rfl⟩, rows1, q3', nd1, by rw [n1, m']; omega⟩, by rw [m']; exact hm, l'⟩ (fun z => absurd z m) fun _ => pm)
end
end CL

namespace CL
open PySem L2 PySem.Spec PyProof.Rows
section
variable {P : Program} {w : World} {A : Around} {E : Value → Shared → Prop} {s : Shared} {a : Addr} {ks : List Key} {es : Array (Int × Value)} {ep : Nat} {t : SetTable}
/-- the set at a holds the keys ks -/
structure KS0 (P : Program) (w : World) (h : Heap) (a : Addr) (ks : List Key) (es : Array (Int × Value)) (ep : Nat) (t : SetTable) : Prop where
  ob : ∃ o, h.get? a = some o ∧ o.ExactSet ∧ o.data = .set es ep t
  el : ElemsOf (mixKind P w) es.toList
  mem : ∀ k, k ∈ ks ↔ ∃ e ∈ es.toList, keyIs k e.2 = true
  nd : ks.Nodup
  sz : es.size = ks.length
  few : ks.length < 4096
  fits : t.fits es.size = true
  ris : Ris t.place.toList
  led : w.params.followText "set-order" = true ∨ t.led = true
def KS (P : Program) (w : World) (h : Heap) (a : Addr) (ks : List Key) : Prop := ∃ es ep t, KS0 P w h a ks es ep t
theorem ks_cls (R : KS P w s.heap a ks) : ∃ o, s.heap.get? a = some o ∧ o.ExactSet := let ⟨_, _, _, R⟩ := R; let ⟨o, h, e, _⟩ := R.ob; ⟨o, h, e⟩
/-- stored, and laid anew where it is too full -/
theorem ks_tail {g : Bool → Sem Unit} (hg : ∀ (b : Bool) (s1 : Shared) (Q' : Unit → Shared → Prop), Q' () s1 → wpAny (model P w) A (g b) Q' E s1) {o : Obj} (ho : s.heap.get? a = some o) (hex : o.ExactSet) (hd : o.data = .set es ep t)
    {es1 : Array (Int × Value)} {t1 : SetTable} (h1 : ElemsOf (mixKind P w) es1.toList) (h2 : ∀ k, k ∈ ks ↔ ∃ e ∈ es1.toList, keyIs k e.2 = true) (h3 : ks.Nodup) (h4 : es1.size = ks.length) (h5 : ks.length < 4096) (h6 : t1.fits es1.size = true) (h7 : Ris t1.place.toList)
    (h8 : w.params.followText "set-order" = true ∨ t1.led = true) {wd : Bool} {R : Option Bool → Shared → Prop} (h : ∀ h', Heap.SameBut a s.heap h' → KS P w h' a ks → R (some true) { s with heap := h' }) :
    wpAny (model P w) A (do
        storeSet a es1 t1
        if (!wd && t1.tooFull) = true then do
            g (relayAll t1 es1 (SetTable.grown es1.size)).2.2
            storeSet a (relayAll t1 es1 (SetTable.grown es1.size)).1 (relayAll t1 es1 (SetTable.grown es1.size)).2.1
            pure (some true)
          else pure (some true)) R E s := by
  have line : ∀ n, n = ks.length → n ≤ sizeLine := fun n e => by rw [sizeLine_eq]; omega
  refine wpAny_bind (wpAny_storeSet_of ho hd ?_ (line _ h4))
  have sb1 := Heap.SameBut.update s.heap a (Obj.putSet es1 t1)
  have g1 := store_at (es' := es1) (t' := t1) ho hd
  generalize s.heap.update a (Obj.putSet es1 t1) = hp1 at sb1 g1 ⊢
  split
  · have q1 := relayAll_perm t1 es1 (SetTable.grown es1.size)
    have q2 := relayAll_fits t1 es1 (SetTable.grown es1.size)
    have q3 := relayAll_ris t1 es1 (SetTable.grown es1.size)
    have q4 := relayAll_led t1 es1 (SetTable.grown es1.size)
    generalize relayAll t1 es1 (SetTable.grown es1.size) = Z at q1 q2 q3 q4 ⊢
    obtain ⟨es2, t2, gv⟩ := Z
    have n2 : es2.size = ks.length := by
      rw [← h4, ← Array.length_toList, ← Array.length_toList]
      exact q1.length_eq
    refine wpAny_bind (hg _ _ _ (wpAny_bind (wpAny_storeSet_of g1 rfl (wpAny_pure ?_) (line _ n2))))
    refine h _ (sb1.trans (Heap.SameBut.update _ a _)) ⟨es2, _, t2, ⟨_, store_at (es' := es2) (t' := t2) g1 rfl, ⟨hex.1, hex.2.1, hex.2.2⟩, rfl⟩, h1.perm q1, fun k => (h2 k).trans ?_, h3, n2, h5, q2, q3, by rw [q4]; exact h8⟩
    exact ⟨fun ⟨e, m, z⟩ => ⟨e, q1.mem_iff.mpr m, z⟩, fun ⟨e, m, z⟩ => ⟨e, q1.mem_iff.mp m, z⟩⟩
  · exact wpAny_pure (h hp1 sb1 ⟨es1, _, t1, ⟨_, g1, ⟨hex.1, hex.2.1, hex.2.2⟩, rfl⟩, h1, h2, h3, h4, h5, h6, h7, h8⟩)
theorem ks_add (R : KS P w s.heap a ks) {k : Key} {x : Value} (hk : keyIs k x = true) (few : ks.length + 1 < 4096) {Q : Bool → Shared → Prop}
    (hin : k ∈ ks → Q false s) (hout : ∀ h', k ∉ ks → Heap.SameBut a s.heap h' → KS P w h' a (ks ++ [k]) → Q true { s with heap := h' }) :
    wpAny (model P w) A (setAddHashed a x ((mixKind P w).hash k)) Q E s := by
  obtain ⟨es, ep, t, R⟩ := R
  obtain ⟨o, ho, hex, hd⟩ := R.ob
  have sc : x.scannable = true := by rcases keyIs_shape hk with ⟨i, t, _, rfl⟩ | ⟨x, t, _, rfl⟩ <;> rfl
  have sz := R.sz
  unfold setAddHashed setAddHashedIn
  refine wpAny_holding (wpAny_bind (wpAny_setState_of ho hd R.fits ?_))
  dsimp only
  rw [byScan_of sc (show es.size < 4096 by omega) R.el, if_pos rfl]
  unfold setAddByScan
  refine wpAny_bind (wpAny_bind (wpAny_rule (wpAny_bind (wpAny_setScan_of (knd := mixKind P w) hk ho hd R.fits R.el ?_))))
  cases hr : es.toList.findIdx? (fun e => (mixKind P w).is k e.2) with
  | some j =>
    obtain ⟨hj, pj, _⟩ := List.findIdx?_eq_some_iff_getElem.mp hr
    exact wpAny_pure (wpAny_pure (hin ((R.mem k).mpr ⟨_, List.getElem_mem hj, pj⟩)))
  | none =>
    have nk : k ∉ ks := fun z => by
      obtain ⟨e, m, q⟩ := (R.mem k).mp z
      have := List.findIdx?_eq_none_iff.mp hr e m
      rw [show (mixKind P w).is k e.2 = true from q] at this
      exact nomatch this
    dsimp only
    have p1 := layNew_perm t es ((mixKind P w).hash k) x
    have p2 := layNew_fits t es ((mixKind P w).hash k) x
    have p3 := layNew_ris t es ((mixKind P w).hash k) x R.ris
    have p4 := layNew_led t es ((mixKind P w).hash k) x
    generalize layNew t es ((mixKind P w).hash k) x = Z at p1 p2 p3 p4 ⊢
    obtain ⟨es1, t1, wd, gv⟩ := Z
    dsimp only at p1 p2 p3 p4 ⊢
    rw [Array.toList_push] at p1
    have e1 : ElemsOf (mixKind P w) es1.toList := (R.el.push (knd := mixKind P w) hk sc).perm p1
    have n1 : es1.size = (ks ++ [k]).length := by
      rw [← Array.length_toList, p1.length_eq, List.length_append, List.length_append, Array.length_toList, sz]
      rfl
    have m1 : ∀ j, j ∈ ks ++ [k] ↔ ∃ e ∈ es1.toList, keyIs j e.2 = true := fun j => by
      rw [List.mem_append, List.mem_singleton, R.mem j]
      constructor
      · rintro (⟨e, m, q⟩ | rfl)
        · exact ⟨e, p1.mem_iff.mpr (List.mem_append_left _ m), q⟩
        · exact ⟨(_, x), p1.mem_iff.mpr (List.mem_append_right _ (List.mem_singleton.mpr rfl)), hk⟩
      · rintro ⟨e, m, q⟩
        rcases List.mem_append.mp (p1.mem_iff.mp m) with m | m
        · exact .inl ⟨e, m, q⟩
        · obtain rfl := List.mem_singleton.mp m
          exact .inr ((mixKind P w).inj x j k q hk)
    have d1 : (ks ++ [k]).Nodup := by
      rw [List.nodup_append]
      exact ⟨R.nd, by simp, fun u hu v hv z => nk (by rw [List.mem_singleton.mp hv] at z; rw [← z]; exact hu)⟩
    have f1 : (ks ++ [k]).length < 4096 := by simpa using few
    have l1 : w.params.followText "set-order" = true ∨ t1.led = true := by rw [p4]; exact R.led
    have tell : ∀ (b : Bool) (s1 : Shared) (Q' : Unit → Shared → Prop), Q' () s1 → wpAny (model P w) A (match b with | true => rule "set.scan.the-table-gave-way" | false => pure ()) Q' E s1 :=
      fun b s1 Q' q => by cases b <;> first | exact wpAny_pure q | exact wpAny_rule q
    refine wpAny_bind (tell _ _ _ ?_)
    split
    · rw [hashByValue_scannable 8 sc]
      refine wpAny_bind (wpAny_pure ?_)
      refine ks_tail (ks := ks ++ [k]) ?_ ho hex hd e1 m1 d1 n1 f1 ?_ ?_ ?_ fun h' sb K => wpAny_pure (hout h' nk sb K)
      · intro b s1 Q' q; cases b <;> first | exact wpAny_pure q | exact wpAny_rule q
      · split
        · exact p2
        · exact SetTable.fits_plain_off p2
      · split <;> exact p3
      · split <;> exact l1
    · refine wpAny_bind (wpAny_pure ?_)
      rw [if_pos rfl]
      refine ks_tail (ks := ks ++ [k]) ?_ ho hex hd e1 m1 d1 n1 f1 p2 p3 l1 fun h' sb K => wpAny_pure (hout h' nk sb K)
      intro b s1 Q' q; cases b <;> first | exact wpAny_pure q | exact wpAny_rule q
end
end CL

namespace CL
open PySem L2 PySem.Spec PyProof.Rows PpSet
/-- the kind of a comprehension: what it collects in (ob, as the heap has it: o0), what a turn does with it (be) -/
structure CKind (X : Cx) (e : Expr) (tg iter : Expr) (ifs : List Expr) (newA : Sem Value) (ob : Obj) (o0 : Addr → HO) (be : Addr → PySem.Env → Sem Unit) : Prop where
  cl : clausesOf e = [⟨tg, iter, ifs, 0⟩]
  new : ∀ {A : Around} {E : Value → Shared → Prop} {s : Shared} {Q : Value → Shared → Prop}, Q (.ref s.heap.objs.size) { s with heap := s.heap.push ob } → wpAny (model X.prog X.w) A newA Q E s
  obj : ∀ {pins : List (Addr × Obj)} {σ : L2.St} {H : Hp} {s : Shared}, Inv X pins σ H s → ObjOk X.prog X.w (upd H s.heap.objs.size (o0 s.heap.objs.size)) (s.heap.push ob) s.heap.objs.size (o0 s.heap.objs.size)
  turn : ∀ (it : Value) (D : Addr) (env : PySem.Env), compTurn e 0 it (.ref D) env = (do
    standAt iter.pos
    match ← pyNext it with
    | none => pure (.done .next)
    | some v =>
      letOwnedTupleGo tg it v
      assign tg env v
      let mut ok := true
      for c in ifs do
        if ok then ok ← isTrue c env (eval c env)
      if ok then be D env
      again (.compLoop e 0 it (.ref D) env))
  und : ∀ (A : Around) (it acc : Value) (env : PySem.Env), A.under (Code.compLoop e 0 it acc env) = A
  den : ∀ (it acc : Value) (env : PySem.Env), (model X.prog X.w).den (Code.compLoop e 0 it acc env) = (compTurn e 0 it acc env).onRaise (fun x => do noteFrame x env; theTreesLotGoes x)
  start : ∀ {A : Around} {R : Result → Shared → Prop} {s : Shared} {it acc : Value} {env : PySem.Env}, codeAny (model X.prog X.w) A (.compLoop e 0 it acc env) R s →
    wpAny (model X.prog X.w) A (pyIter it) (fun it' s' => codeAny (model X.prog X.w) A (.compLoop e 0 it' acc env) R s') (notedBy (model X.prog X.w) A env fun x s' => R (.error x) s') s → codeAny (model X.prog X.w) A (.compStart e 0 it acc env) R s
/-- what is asked of it -/
def tGc (o0 : Addr → HO) (wi : TI) (g : TG) (tt : TT) (Φ : Addr → (Hp → Prop) → L2.St → Hp → Prop) (vs : List Nat) : TE := fun σ H Q => wi σ H fun J H1 => ∀ D, H1 D = none → ∃ W : Nat → Nat → Hp → Prop, (∃ m, W 0 m (upd H1 D (o0 D))) ∧ ∀ i m H, W i m H →
  (J.stop i H ∧ Q (.ref D) H) ∨ (J.go i H ∧ ∃ Nx : Hp → Prop, (∀ H', Nx H' → ∃ m', m' < m ∧ W (i + 1) m' H') ∧ ∀ x H', J.yld i H x H' → g x (L2.wipe σ vs) H' fun σ2 H2 => L2.wipe σ2 vs = L2.wipe σ vs ∧ tt σ2 H2 fun b H3 =>
    if b = true then Φ D Nx σ2 H3 else Nx H3)
section
variable {X : Cx} {e tg iter : Expr} {ifs : List Expr} {newA : Sem Value} {ob : Obj} {o0 : Addr → HO} {be : Addr → PySem.Env → Sem Unit}
/-- its loop -/
theorem ckind_loop (kd : CKind X e tg iter ifs newA ob o0 be) {A : Around} {R : Result → Shared → Prop} {s : Shared} {it : Value} {D : Addr} {env : PySem.Env} (I : Nat → Shared → Prop)
    (turn : ∀ n s, I n s → wpAny (model X.prog X.w) A (pyNext it) (fun r s1 => match r with
      | none => R (.ok .next) s1
      | some v => wpAny (model X.prog X.w) A (letOwnedTupleGo tg it v) (fun _ s2 => wpAny (model X.prog X.w) A (assign tg env v) (fun _ s3 =>
          wpAny (model X.prog X.w) A (forIn ifs true fun c r => if r = true then do let ok ← isTrue c env (eval c env); pure (ForInStep.yield ok) else pure (ForInStep.yield r)) (fun ok s4 =>
            if ok = true then wpAny (model X.prog X.w) A (be D env) (fun _ s5 => ∃ m, m < n ∧ I m s5) (notedBy (model X.prog X.w) A env fun e s' => R (.error e) s') s4
            else ∃ m, m < n ∧ I m s4) (notedBy (model X.prog X.w) A env fun e s' => R (.error e) s') s3) (notedBy (model X.prog X.w) A env fun e s' => R (.error e) s') s2) (notedBy (model X.prog X.w) A env fun e s' => R (.error e) s') s1) (notedBy (model X.prog X.w) A env fun e s' => R (.error e) s') s)
    (n : Nat) (h : I n s) : codeAny (model X.prog X.w) A (.compLoop e 0 it (.ref D) env) R s := by
  have keep : ∀ {α : Type} {m : Sem α} {Q Q' : α → Shared → Prop} {E : Value → Shared → Prop} {s : Shared}, wpAny (model X.prog X.w) A m Q E s → (∀ a s, Q a s → Q' a s) → wpAny (model X.prog X.w) A m Q' E s := fun h i => wpAny_mono h i fun _ _ z => z
  refine codeAny_loop rfl I (fun n s hI => ?_) n h
  rw [kd.und, kd.den]
  refine wpAny_noted ?_
  rw [kd.turn]
  refine wpAny_bind (wpAny_standAt (wpAny_bind (keep (turn n s hI) fun r s1 h1 => ?_)))
  cases r with
  | none => exact wpAny_pure h1
  | some v =>
    refine wpAny_bind (keep h1 fun _ s2 h2 => wpAny_bind (keep h2 fun _ s3 h3 => wpAny_bind (keep h3 fun ok s4 h4 => ?_)))
    cases ok with
    | true => exact wpAny_bind (keep h4 fun _ s5 h5 => wpAny_pure ⟨rfl, h5⟩)
    | false => exact wpAny_pure ⟨rfl, h4⟩
/-- the whole of it -/
theorem ckind_core {pins : List (Addr × Obj)} {s : Shared} {σ : L2.St} {H : Hp} {Q : VK} {scope : Scope} {own : List (PySem.Str × Nat)} {pos' : Pos} {wi : TI} {g : TG} {tt : TT} {Φ : Addr → (Hp → Prop) → L2.St → Hp → Prop} {use : Option (Value → Sem Unit)} {Qf : Value → Shared → Prop}
    (kd : CKind X e tg iter ifs newA ob o0 be) (hc : X.calm = true) (hN : X.N.Nodup) (I : Inv X pins σ H s) (hi : PI X tg iter wi) (ok : BlkOk X.N X.env.scope scope own)
    (hg : ∀ (s : Shared) (H : Hp) (C : Addr) (cl : List (PySem.Str × Addr)) (fp : List Addr), PG (Bl X s H scope cl C fp) tg g)
    (ht : ∀ (s : Shared) (H : Hp) (C : Addr) (cl : List (PySem.Str × Addr)) (fp : List Addr), PTs (Bl X s H scope cl C fp) ifs tt)
    (hb : ∀ (s : Shared) (H : Hp) (C : Addr) (cl : List (PySem.Str × Addr)) (fp : List Addr) (pins : List (Addr × Obj)) (s' : Shared) (σ' : L2.St) (H' : Hp) (D : Addr) (Nx : Hp → Prop), Inv (Bl X s H scope cl C fp) pins σ' H' s' → Φ D Nx σ' H' →
      wpAny (model X.prog X.w) X.A (be D (compEnvC scope cl C X.env)) (fun _ s2 => ∃ H2, Inv (Bl X s H scope cl C fp) pins σ' H2 s2 ∧ Nx H2) (fun _ _ => False) s')
    (hs : ∀ x, foldedSetIterable iter X.env x = pure x) (h : tGc o0 wi g tt Φ (own.map (·.2)) σ H Q)
    (hR : ∀ D C s' m H', Inv X pins σ H' s' → Q (.ref D) H' → s'.heap.Ns C m → FpOk X pins H' C → compPost (model X.prog X.w) X.A X.xe use Qf (.ref D) C (.ok .next) s') :
    wpAny (model X.prog X.w) X.A (comprehension e scope X.env pos' newA false (eval iter X.env) use) Qf X.xe s := by
  have frees : ∀ y ∈ scope.names, y.2 = .free → ∃ c, X.env.cells.lookup y.1 = some c := fun y hy q =>
    (ok.free y hy q).elim (fun k => I.ok.has _ (.inl k)) fun k => I.ok.has _ (.inr k)
  refine wpAny_comprehension_free kd.cl hs (closure_ok frees) ok.kind (fun y hy q => (ok.uniq y hy).trans (congrArg some q)) (thn (hi.run pins s σ H _ I h) fun xv s1 hx => thn hx fun itv s2 h2 => ?_)
  obtain ⟨it, fp, tn, J, H2, rfl, I2, T, st2, f2, q⟩ := h2
  refine kd.new (newEnv_comp ?_)
  obtain ⟨D, hD⟩ : ∃ D, s2.heap.objs.size = D := ⟨_, rfl⟩
  have hO := kd.obj I2
  rw [hD] at hO ⊢
  have none2 : H2 D = none := I2.hok.fresh (Nat.le_of_eq hD)
  obtain ⟨W, ⟨m0, w0⟩, turn⟩ := q D none2
  obtain ⟨s3, hs3⟩ : ∃ s3 : Shared, { s2 with heap := s2.heap.push ob } = s3 := ⟨_, rfl⟩
  have I3 : Inv X pins σ (upd H2 D (o0 D)) s3 := hs3 ▸ I2.laid (t' := s2.toks) (fun b o z => Heap.get?_push_of_some _ z) (Nat.le_of_eq hD) hO
  have heap3 : s3.heap = s2.heap.push ob := hs3 ▸ rfl
  rw [hs3]
  have fpS : ∀ b ∈ fp, b < s2.heap.objs.size := fun b hb => let ⟨_, z, _⟩ := T.obj _ _ st2 b hb; Heap.lt_size z
  have fp3 : ∀ b ∈ fp, FpOk X pins (upd H2 D (o0 D)) b ∧ b < s3.heap.objs.size := fun b hb => by
    have lt := fpS b hb
    obtain ⟨z1, z2⟩ := f2 b hb
    exact ⟨⟨by rw [upd_ne (show b ≠ D from Nat.ne_of_lt (hD ▸ lt))]; exact z1, z2⟩, by rw [heap3, Heap.size_push]; exact Nat.lt_succ_of_lt lt⟩
  have st3 : tn 0 s3.heap := T.keep _ _ _ st2 fun b _ o z => heap3 ▸ Heap.get?_push_of_some _ z
  have I4 := block_start I3 ok hN fp3
  obtain ⟨C, hC⟩ : ∃ C, s3.heap.objs.size = C := ⟨_, rfl⟩
  obtain ⟨cl, hcl⟩ : ∃ cl, cellsFrom (s3.heap.objs.size + 1) scope.names (cloFrom X.env.cells scope.names []) = cl := ⟨_, rfl⟩
  obtain ⟨H3, hH3⟩ : ∃ H3, upd H2 D (o0 D) = H3 := ⟨_, rfl⟩
  have nfp : ∀ b ∈ fp, H3 b = none := fun b hb => hH3 ▸ (fp3 b hb).1.1
  rw [hH3] at I3 I4 w0 fp3
  obtain ⟨s4, hs4⟩ : ∃ s4 : Shared, { s3 with heap := pushCells (s3.heap.push { cls := .type "dict", data := .dict #[] }) scope.names } = s4 := ⟨_, rfl⟩
  have st4 : tn 0 s4.heap := T.keep _ _ _ st3 fun b _ o z => hs4 ▸ pushCells_keeps _ _ _ _ (Heap.get?_push_of_some _ z)
  show codeAny _ _ (.compStart e 0 (.ref it) (.ref D) (compEnvC scope (cellsFrom (s3.heap.objs.size + 1) scope.names (cloFrom X.env.cells scope.names [])) s3.heap.objs.size X.env)) (compPost (model X.prog X.w) X.A X.xe use Qf (.ref D) s3.heap.objs.size) { s3 with heap := pushCells (s3.heap.push { cls := .type "dict", data := .dict #[] }) scope.names }
  rw [hs4] at I4 ⊢
  rw [hcl] at I4 ⊢
  have sees : ∀ {σ' : L2.St} {H' : Hp} {s' : Shared}, Inv (Bl X s3 H3 scope cl s3.heap.objs.size fp) [] σ' H' s' → (∀ b ∈ fp, H' b = none) → ∀ b ∈ fp, FpOk (Bl X s3 H3 scope cl s3.heap.objs.size fp) [] H' b := fun {σ' H' s'} I' hn b hb =>
    let z := I'.ok.exf b hb
    ⟨hn b hb, z.1, I'.ok.exfs b hb, .inl hb, fun x c y => z.2 x c y, fun p hp => absurd (show p ∈ ([] : List (Addr × Obj)) ++ [] from hp) (by simp)⟩
  have loop : codeAny (model X.prog X.w) X.A (.compLoop e 0 (.ref it) (.ref D) (compEnvC scope cl s3.heap.objs.size X.env)) (compPost (model X.prog X.w) X.A X.xe use Qf (.ref D) s3.heap.objs.size) s4 := by
    refine ckind_loop kd (fun n s' => ∃ i H', Inv (Bl X s3 H3 scope cl s3.heap.objs.size fp) [] (L2.wipe σ (own.map (·.2))) H' s' ∧ tn i s'.heap ∧ (∀ b ∈ fp, H' b = none) ∧ W i n H') (fun n s5 ⟨i, H5, I5, st5, n5, w5⟩ => ?_) m0 ⟨0, H3, I4, st4, nfp, w0⟩
    cases turn i n H5 w5 with
    | inl z =>
      obtain ⟨stop, fin⟩ := z
      refine thnF (T.done (Bl X s3 H3 scope cl s3.heap.objs.size fp) rfl rfl rfl hc i [] s5 _ H5 (fun _ _ => False) I5 (sees I5 n5) st5 stop) fun r s6 ⟨hr, I6⟩ => ?_
      subst hr
      have back : Inv X pins σ H5 s6 := I3.call' (ch := fp) I6.os I6.base I6.hok I6.bare fun b hb => let z := (fp3 b hb).1; ⟨z.2.2.2.1, z.2.1, z.2.2.2.2.1, z.2.2.2.2.2⟩
      have free : H5 s3.heap.objs.size = none := I6.free
      obtain ⟨m, hn, _⟩ := I6.loc
      exact hR D s3.heap.objs.size s6 m H5 back fin hn (I3.fpOk (Nat.le_refl _) free)
    | inr z =>
      obtain ⟨go, Nx, hNx, step⟩ := z
      refine thnF (T.item (Bl X s3 H3 scope cl s3.heap.objs.size fp) rfl rfl rfl hc i [] s5 _ H5 (fun _ _ => False) I5 (sees I5 n5) st5 go) fun r s6 ⟨u, hr, h6⟩ => ?_
      subst hr
      refine thnF h6 fun _ s7 ⟨x, H7, I7, r7, y7, st7, n7⟩ => ?_
      have J7 := I7.pinned (sees I7 n7) (T.obj _ _ st7)
      refine thnF ((hg s3 H3 s3.heap.objs.size cl fp).run _ s7 _ H7 x u _ J7 r7 (step x H7 y7)) fun _ s8 ⟨σ8, H8, I8, hw8, q8⟩ => ?_
      refine thnF ((ht s3 H3 s3.heap.objs.size cl fp).run _ s8 σ8 H8 _ I8 q8) fun b s9 ⟨H9, I9, q9⟩ => ?_
      have next : ∀ {s' : Shared} {H' : Hp}, Inv (Bl X s3 H3 scope cl s3.heap.objs.size fp) ([] ++ pinsAt fp s7.heap) σ8 H' s' → Nx H' → ∃ m, m < n ∧ ∃ i H', Inv (Bl X s3 H3 scope cl s3.heap.objs.size fp) [] (L2.wipe σ (own.map (·.2))) H' s' ∧ tn i s'.heap ∧ (∀ b ∈ fp, H' b = none) ∧ W i m H' := fun {s' H'} I' nx => by
        obtain ⟨m', lt, w'⟩ := hNx H' nx
        have at7 : ∀ b ∈ fp, ∀ o, s7.heap.get? b = some o → s'.heap.get? b = some o ∧ H' b = none := fun b hb o z =>
          have y := I'.pin (b, o) (List.mem_append_right _ (List.mem_append_right _ (mem_pinsAt hb z)))
          ⟨y.1, y.2.1⟩
        refine ⟨m', lt, i + 1, H', (I'.unpinned (pins := [])).weak (by rw [← hw8, wipe_length]) (fun j v z => ?_), T.keep _ _ _ st7 fun b hb o z => (at7 b hb o z).1, fun b hb => ?_, w'⟩
        · rw [← hw8] at z
          exact (wipe_some z).1
        · obtain ⟨o, z, _⟩ := T.obj _ _ st7 b hb
          exact (at7 b hb o z).2
      cases b with
      | false => exact next I9 q9
      | true => exact thnF (hb s3 H3 s3.heap.objs.size cl fp _ s9 σ8 H9 D Nx I9 q9) fun _ s10 ⟨H10, I10, nx⟩ => next I10 nx
  exact kd.start loop (T.self X.A 0 _ _ _ st4 loop)
theorem pe_ckind {scope : Scope} {own : List (PySem.Str × Nat)} {pos' : Pos} {wi : TI} {g : TG} {tt : TT} {Φ : Addr → (Hp → Prop) → L2.St → Hp → Prop}
    (kd : CKind X e tg iter ifs newA ob o0 be) (he : eval e X.env = comprehension e scope X.env pos' newA false (eval iter X.env)) (hc : X.calm = true) (hN : X.N.Nodup) (hi : PI X tg iter wi) (ok : BlkOk X.N X.env.scope scope own)
    (hg : ∀ (s : Shared) (H : Hp) (C : Addr) (cl : List (PySem.Str × Addr)) (fp : List Addr), PG (Bl X s H scope cl C fp) tg g)
    (ht : ∀ (s : Shared) (H : Hp) (C : Addr) (cl : List (PySem.Str × Addr)) (fp : List Addr), PTs (Bl X s H scope cl C fp) ifs tt)
    (hb : ∀ (s : Shared) (H : Hp) (C : Addr) (cl : List (PySem.Str × Addr)) (fp : List Addr) (pins : List (Addr × Obj)) (s' : Shared) (σ' : L2.St) (H' : Hp) (D : Addr) (Nx : Hp → Prop), Inv (Bl X s H scope cl C fp) pins σ' H' s' → Φ D Nx σ' H' →
      wpAny (model X.prog X.w) X.A (be D (compEnvC scope cl C X.env)) (fun _ s2 => ∃ H2, Inv (Bl X s H scope cl C fp) pins σ' H2 s2 ∧ Nx H2) (fun _ _ => False) s')
    (hs : ∀ x, foldedSetIterable iter X.env x = pure x := by intro _; rfl) : PE X e (tGc o0 wi g tt Φ (own.map (·.2))) := by
  refine ⟨fun pins s σ H Q I h => ?_⟩
  rw [he]
  refine ckind_core kd hc hN I hi ok hg ht hb hs h fun D C s' m H' I' q hn f => ⟨m, hn, fun h2 sb => ⟨.ref D, H', ?_, rfl, q⟩⟩
  obtain ⟨f0, f1, f2, f3, f4, f5⟩ := f
  exact I'.turned (t' := s'.toks) (fun b o hb e => (sb.2 b hb).trans e) f0 f1 f3 f4 f5
end
end CL

namespace CL
open PySem L2 PySem.Spec PyProof.Rows
/-- the turns: the lists of what the elements are -/
def compL (t : Its) (put : D → CL.Env → Option CL.Env) (tt : MB) (te : ML) (env : CL.Env) : List D → M (List (List D))
  | [], μ => if t.ok μ = true then .ok [] μ else .no
  | d :: ds, μ => if t.ok μ = true then (match put d env with
    | none => .no
    | some env1 => (tt env1 μ).bindN fun b μ1 => if b = true then (te env1 μ1).bindN fun x μ2 => (compL t put tt te env ds μ2).bindN fun xs μ3 => .ok (x :: xs) μ3
      else compL t put tt te env ds μ1) else .no
theorem bindN_ok {α β : Type} {r : Rs α} {k : α → M β} {b : β} {m : Mem} (h : r.bindN k = .ok b m) : ∃ a m1, r = .ok a m1 ∧ k a m1 = .ok b m := by
  cases r with
  | ok a m1 => exact ⟨a, m1, rfl, h⟩
  | ex c x m1 => exact nomatch h
  | no => exact nomatch h
section
variable {K : PySem.W.Frag} {mg : Str → Option Value} {H H1 : Hp} {ρ ρ1 : Lc} {μ μ1 : Mem} {E : XK} {X : Cx} {W : WX}
/-- a hidden object changes -/
theorem hid_upd {a : Addr} {o : HO} (w : Wd K mg H ρ μ) (h : a ∈ ρ.hid) (no : ∀ xs, o ≠ .tup xs) : Exx H (Live ρ μ) ρ.cs (upd H a o) (Live ρ μ) ρ.cs ∧ Wd K mg (upd H a o) ρ μ := by
  have nc : a ∉ ρ.cs := (w.hid a h).2
  have ex : Exx H (Live ρ μ) ρ.cs (upd H a o) (Live ρ μ) ρ.cs := ⟨fun b u e n => .inl (by rw [upd_ne (show b ≠ a from fun z => n (by rw [z]; exact .inl h))]; exact e), fun _ _ _ z => z, fun _ _ z => z⟩
  refine ⟨ex, w.len, w.nd, fun b hb => ?_, fun b hb => ?_, fun i d b h1 h2 => ?_⟩
  · obtain ⟨u, e⟩ := w.trk b hb
    exact ⟨u, by rw [upd_ne (show b ≠ a from fun z => nc (by rw [← z]; exact hb))]; exact e⟩
  · by_cases z : b = a
    · subst z
      exact ⟨⟨_, upd_same, no⟩, nc⟩
    · obtain ⟨⟨u, e, eo⟩, h2⟩ := w.hid b hb
      exact ⟨⟨u, by rw [upd_ne z]; exact e, eo⟩, h2⟩
  · exact (w.cell i d b h1 h2).mono ex fun _ => upd_ne (show b ≠ a from fun z => nc (by rw [← z]; exact List.mem_of_getElem? h2))
/-- a new hidden object -/
theorem hid_new {p : Addr} {o : HO} (w : Wd K mg H ρ μ) (h : H p = none) (no : ∀ xs, o ≠ .tup xs) :
    Exx H (Live ρ μ) ρ.cs (upd H p o) (Live ⟨ρ.cs, p :: ρ.hid⟩ μ) ρ.cs ∧ Wd K mg (upd H p o) ⟨ρ.cs, p :: ρ.hid⟩ μ := by
  have ne : ∀ a u, H a = some u → a ≠ p := fun a u e z => by rw [z, h] at e; exact nomatch e
  have lv : ∀ a, Live ⟨ρ.cs, p :: ρ.hid⟩ μ a → a = p ∨ Live ρ μ a := fun a l => by
    rcases l with l | l
    · rcases List.mem_cons.mp l with l | l
      · exact .inl l
      · exact .inr (.inl l)
    · exact .inr (.inr l)
  have ex : Exx H (Live ρ μ) ρ.cs (upd H p o) (Live ⟨ρ.cs, p :: ρ.hid⟩ μ) ρ.cs :=
    ⟨fun a u e _ => .inl (by rw [upd_ne (ne a u e)]; exact e), fun a u e l => (lv a l).resolve_left (ne a u e), fun _ _ z => z⟩
  have nc : p ∉ ρ.cs := fun z => let ⟨u, e⟩ := w.trk p z; ne p u e rfl
  refine ⟨ex, w.len, w.nd, fun a ha => ?_, fun a ha => ?_, fun i d a h1 h2 => ?_⟩
  · obtain ⟨u, e⟩ := w.trk a ha
    exact ⟨u, by rw [upd_ne (ne a u e)]; exact e⟩
  · rcases List.mem_cons.mp ha with z | z
    · subst z
      exact ⟨⟨_, upd_same, no⟩, nc⟩
    · obtain ⟨⟨u, e, eo⟩, h2⟩ := w.hid a z
      exact ⟨⟨u, by rw [upd_ne (ne a u e)]; exact e, eo⟩, h2⟩
  · obtain ⟨u, e⟩ := w.trk a (List.mem_of_getElem? h2)
    exact (w.cell i d a h1 h2).mono ex fun _ => upd_ne (ne a u e)
/-- the hidden object is let go: it stands still from now on -/
theorem unhide {H2 : Hp} {ρ2 : Lc} {m : Mem} {p : Addr} (ht : ∀ a ∈ ρ1.hid, ∃ o, H1 a = some o) (ex : Exx H1 (Live ρ1 μ1) ρ1.cs H2 (Live ρ2 m) ρ2.cs) (hh : ∀ a ∈ ρ1.hid, H2 a = H1 a) (hid : ρ2.hid = p :: ρ1.hid) (w : Wd K mg H2 ρ2 m) (hn : H1 p = none) :
    Exx H2 (Live ρ2 m) ρ2.cs H2 (Live ⟨ρ2.cs, ρ1.hid⟩ m) ρ2.cs ∧ Exm H1 ρ1 μ1 H2 ⟨ρ2.cs, ρ1.hid⟩ m ∧ Wd K mg H2 ⟨ρ2.cs, ρ1.hid⟩ m ∧ ¬ Live ⟨ρ2.cs, ρ1.hid⟩ m p := by
  have lf : ∀ a, Live ⟨ρ2.cs, ρ1.hid⟩ m a → Live ρ2 m a := fun a l => by
    rcases l with l | l
    · exact .inl (by rw [hid]; exact List.mem_cons_of_mem _ l)
    · exact .inr l
  have exf : Exx H2 (Live ρ2 m) ρ2.cs H2 (Live ⟨ρ2.cs, ρ1.hid⟩ m) ρ2.cs := ⟨fun _ _ e _ => .inl e, fun a _ _ l => lf a l, fun _ _ z => z⟩
  refine ⟨exf, ⟨ex.trans exf, rfl, hh⟩, ⟨w.len, w.nd, w.trk, fun a ha => w.hid a (by rw [hid]; exact List.mem_cons_of_mem _ ha), fun i d a h1 h2 => (w.cell i d a h1 h2).mono exf fun _ => rfl⟩, ?_⟩
  rintro (z | ⟨i, d, z, _⟩)
  · obtain ⟨o, e⟩ := ht p z
    rw [hn] at e
    exact nomatch e
  · exact (w.hid p (by rw [hid]; exact List.mem_cons_self)).2 (List.mem_of_getElem? z)
/-- what stands at the hidden place, by what was collected -/
abbrev CtR := Hp → (Addr → Prop) → List Addr → HO → List (List D) → Prop
structure CtOk (Ct : CtR) : Prop where
  tup : ∀ {H Lv cs o ys}, Ct H Lv cs o ys → ∀ xs, o ≠ .tup xs
  mono : ∀ {H Lv cs H' Lv' cs' o ys}, Exx H Lv cs H' Lv' cs' → Ct H Lv cs o ys → Ct H' Lv' cs' o ys
theorem comp_coreG {o0 : Addr → HO} {Φ : Addr → (Hp → Prop) → L2.St → Hp → Prop} {Ψ : Addr → (Hp → Prop) → List V → Hp → Prop} {Ct : Addr → CtR} {OK : List (List D) → List D → Prop} {its : Its} {t : Tgt} {tt : MB} {te : ML} {vs : List Nat} {σ : L2.St} {env : CL.Env} {J : It} {Q : VK}
    (hct : ∀ p, CtOk (Ct p)) (h0 : ∀ p H Lv cs, Ct p H Lv cs (o0 p) [])
    (hΦ : ∀ (p : Addr) (Nx : Hp → Prop) (σ : L2.St) (H : Hp) (ρ : Lc) (μ : Mem) (env : CL.Env) (ds : List D) (μ' : Mem), Wd K mg H ρ μ → REnv K mg H ρ μ σ env → te env μ = .ok ds μ' → (∀ vs H' ρ', Exm H ρ μ H' ρ' μ' → Wd K mg H' ρ' μ' → RLm K mg H' ρ' μ' vs ds → Ψ p Nx vs H') → Φ p Nx σ H)
    (hΨ : ∀ (p : Addr) (Nx : Hp → Prop) (vs : List V) (H : Hp) (ρ : Lc) (μ : Mem) (o : HO) (yss : List (List D)) (ds : List D), Wd K mg H ρ μ → p ∈ ρ.hid → H p = some o → Ct p H (Live ρ μ) ρ.cs o yss → RLm K mg H ρ μ vs ds → OK yss ds → (∀ o', Ct p H (Live ρ μ) ρ.cs o' (yss ++ [ds]) → Nx (upd H p o')) → Ψ p Nx vs H)
    (ht : ∀ i ∈ t.slots, i ∈ vs) (w1 : Wd K mg H1 ρ1 μ1) (re1 : REnv K mg H1 ρ1 μ1 σ env) (wk : WalkM K mg J its H1 ρ1 μ1) {ys0 : List (List D)} {m0 : Mem} (hr : compL its t.put tt te (wipeE env vs) its.items μ1 = .ok ys0 m0) (hok : ∀ ys ds zs, ys0 = ys ++ ds :: zs → OK ys ds) (Dd : Addr) (hD : H1 Dd = none)
    (hk : ∀ (H2 : Hp) (ρ2 : Lc) (o : HO), Exx H1 (Live ρ1 μ1) ρ1.cs H2 (Live ρ2 m0) ρ2.cs → (∀ a ∈ ρ1.hid, H2 a = H1 a) → ρ2.hid = Dd :: ρ1.hid → Wd K mg H2 ρ2 m0 → H2 Dd = some o → Ct Dd H2 (Live ρ2 m0) ρ2.cs o ys0 → Q (.ref Dd) H2) :
    ∃ W : Nat → Nat → Hp → Prop, (∃ m, W 0 m (upd H1 Dd (o0 Dd))) ∧ ∀ i m H, W i m H →
      (J.stop i H ∧ Q (.ref Dd) H) ∨ (J.go i H ∧ ∃ Nx : Hp → Prop, (∀ H', Nx H' → ∃ m', m' < m ∧ W (i + 1) m' H') ∧ ∀ x H', J.yld i H x H' → gM K mg t x (L2.wipe σ vs) H' fun σ2 H2 => L2.wipe σ2 vs = L2.wipe σ vs ∧ tMB K mg W0 tt σ2 H2 fun b H3 =>
        if b = true then Φ Dd Nx σ2 H3 else Nx H3) := by
  let INV : Nat → Hp → Prop := fun i H => ∃ ρ μ o ys, Exx H1 (Live ρ1 μ1) ρ1.cs H (Live ρ μ) ρ.cs ∧ (∀ a ∈ ρ1.hid, H a = H1 a) ∧ ρ.hid = Dd :: ρ1.hid ∧ Wd K mg H ρ μ ∧ H Dd = some o ∧ Ct Dd H (Live ρ μ) ρ.cs o ys ∧ REnv K mg H ρ μ (L2.wipe σ vs) (wipeE env vs) ∧
    ∃ zs, compL its t.put tt te (wipeE env vs) (its.items.drop i) μ = .ok zs m0 ∧ ys0 = ys ++ zs
  have nDd : ∀ a u, H1 a = some u → a ≠ Dd := fun a u e z => by rw [z, hD] at e; exact nomatch e
  have nhid : ∀ a ∈ ρ1.hid, a ≠ Dd := fun a ha => let ⟨u, e, _⟩ := (w1.hid a ha).1; nDd a u e
  refine ⟨fun i m H => m = its.items.length - i ∧ i ≤ its.items.length ∧ INV i H, ⟨_, rfl, Nat.zero_le _, ?_⟩, ?_⟩
  · obtain ⟨ex, w⟩ := hid_new (o := o0 Dd) w1 hD ((hct Dd).tup (h0 Dd H1 (Live ρ1 μ1) ρ1.cs))
    have q := REnv.wipe re1 vs
    exact ⟨⟨ρ1.cs, Dd :: ρ1.hid⟩, μ1, o0 Dd, [], ex, fun a ha => upd_ne (nhid a ha), rfl, w, upd_same, h0 Dd _ _ _, ⟨q.len, fun i d h => let ⟨v, h1, h2⟩ := q.at_ i d h; ⟨v, h1, h2.mono ex⟩⟩, ys0, by rw [List.drop_zero]; exact hr, rfl⟩
  · rintro i m H ⟨rfl, hi, ρ, μ, o, ys, ex, hh, hhid, w, hDd, ct, re, zs, hcomp, hys⟩
    by_cases hlt : i < its.items.length
    · rw [List.drop_eq_getElem_cons hlt] at hcomp
      unfold compL at hcomp
      by_cases ho : its.ok μ = true
      · rw [if_pos ho] at hcomp
        refine .inr ⟨wk.goes H ρ μ i ex w ho hlt, INV (i + 1), fun H' q => ⟨its.items.length - (i + 1), by omega, rfl, hlt, q⟩, fun x H3 hy => ?_⟩
        obtain ⟨e3, w3, r3⟩ := wk.yields H ρ μ i x H3 its.items[i] ex w ho (by simp [hlt]) hy
        cases hput : t.put its.items[i] (wipeE env vs) with
        | none => rw [hput] at hcomp; exact nomatch hcomp
        | some env1 =>
          rw [hput] at hcomp
          obtain ⟨b, μ5, htt, hc5⟩ := bindN_ok hcomp
          refine ⟨ρ, μ, wipeE env vs, env1, its.items[i], w3, re.mono e3, r3, hput, fun σ4 re4 hw4 => ⟨by rw [hw4 vs ht, wipe_wipe], ρ, μ, env1, w3, re4, ?_⟩⟩
          rw [htt]
          intro H5 ρ5 e5 w5
          have e35 := e3.trans e5
          have hid5 : ρ5.hid = Dd :: ρ1.hid := e35.hs.trans hhid
          have inh : Dd ∈ ρ.hid := by rw [hhid]; exact List.mem_cons_self
          have D5 : H5 Dd = some o := (e35.ha Dd inh).trans hDd
          have h5 : ∀ a ∈ ρ1.hid, H5 a = H1 a := fun a ha => (e35.ha a (by rw [hhid]; exact List.mem_cons_of_mem _ ha)).trans (hh a ha)
          have ct5 := (hct Dd).mono e35.x ct
          have re5 := re.mono e35
          have ex5 := ex.trans e35.x
          cases b with
          | false => exact ⟨ρ5, μ5, o, ys, ex5, h5, hid5, w5, D5, ct5, re5, zs, hc5, hys⟩
          | true =>
            obtain ⟨ds, μ6, hte, hc6⟩ := bindN_ok (show (te env1 μ5).bindN _ = _ from hc5)
            obtain ⟨zs', m', hrest, hz⟩ := bindN_ok hc6
            injection hz with z1 z2
            subst z1 z2
            refine hΦ Dd _ σ4 H5 ρ5 μ5 env1 ds μ6 w5 (re4.mono e5) hte fun xs H6 ρ6 e6 w6 r6 => ?_
            have in5 : Dd ∈ ρ5.hid := by rw [hid5]; exact List.mem_cons_self
            have hid6 : ρ6.hid = Dd :: ρ1.hid := e6.hs.trans hid5
            have in6 : Dd ∈ ρ6.hid := by rw [hid6]; exact List.mem_cons_self
            refine hΨ Dd _ xs H6 ρ6 μ6 o ys ds w6 in6 ((e6.ha Dd in5).trans D5) ((hct Dd).mono e6.x ct5) r6 (hok ys ds zs' hys) fun o' ct' => ?_
            obtain ⟨exu, wu⟩ := hid_upd w6 in6 ((hct Dd).tup ct')
            have q := re5.mono e6
            exact ⟨ρ6, μ6, o', ys ++ [ds], (ex5.trans e6.x).trans exu, fun a ha => (upd_ne (nhid a ha)).trans ((e6.ha a (by rw [hid5]; exact List.mem_cons_of_mem _ ha)).trans (h5 a ha)), hid6, wu, upd_same, (hct Dd).mono exu ct',
              ⟨q.len, fun i d h => let ⟨v, h1, h2⟩ := q.at_ i d h; ⟨v, h1, h2.mono exu⟩⟩, zs', hrest, by rw [hys]; simp⟩
      · rw [if_neg ho] at hcomp
        exact nomatch hcomp
    · have e : i = its.items.length := by omega
      subst e
      rw [List.drop_length] at hcomp
      unfold compL at hcomp
      by_cases ho : its.ok μ = true
      · rw [if_pos ho] at hcomp
        injection hcomp with z1 z2
        subst z1 z2
        rw [List.append_nil] at hys
        subst hys
        exact .inl ⟨wk.stops H ρ μ ex w ho, hk H ρ o ex hh hhid w hDd ct⟩
      · rw [if_neg ho] at hcomp
        exact nomatch hcomp
end
end CL

namespace CL
open PySem L2 PySem.Spec PyProof.Rows
instance : DecidableEq D := D.dec
def tupOf (p : Addr × List Key) : D := .tup (p.2.map kD)
theorem tupOf_inj {p q : Addr × List Key} (h : tupOf p = tupOf q) : p.2 = q.2 := kDs_inj (D.tup.inj h)
/-- one more -/
def insD (ds : List D) (d : D) : List D := if d ∈ ds then ds else ds ++ [d]
def ddL (ys : List D) : List D := ys.foldl insD []
theorem insD_nodup {ds : List D} {d : D} (h : ds.Nodup) : (insD ds d).Nodup := by
  unfold insD
  split
  · exact h
  · rename_i n
    rw [List.nodup_append]
    exact ⟨h, by simp, fun x hx y hy z => n (by rw [List.mem_singleton.mp hy] at z; rw [← z]; exact hx)⟩
theorem ddL_snoc (ys : List D) (d : D) : ddL (ys ++ [d]) = insD (ddL ys) d := by
  unfold ddL
  rw [List.foldl_append]
  rfl
theorem insD_mem {ds : List D} {d x : D} : x ∈ insD ds d ↔ x ∈ ds ∨ x = d := by
  unfold insD
  split
  · rename_i m
    exact ⟨.inl, fun z => z.elim id fun e => e ▸ m⟩
  · rw [List.mem_append, List.mem_singleton]
theorem ddL_mem (ys : List D) (x : D) : x ∈ ddL ys ↔ x ∈ ys := by
  have key : ∀ (l acc : List D), x ∈ l.foldl insD acc ↔ x ∈ acc ∨ x ∈ l := fun l => by
    induction l with
    | nil => intro acc; simp
    | cons y l ih =>
      intro acc
      rw [List.foldl_cons, ih, insD_mem, List.mem_cons, or_assoc]
  exact (key ys []).trans (by simp)
theorem ddL_nodup (ys : List D) : (ddL ys).Nodup := by
  have key : ∀ (l acc : List D), acc.Nodup → (l.foldl insD acc).Nodup := fun l => by
    induction l with
    | nil => exact fun _ h => h
    | cons y l ih => exact fun acc h => ih _ (insD_nodup h)
  exact key ys [] List.nodup_nil
theorem ddL_len (ys : List D) : (ddL ys).length ≤ ys.length := by
  have key : ∀ (l acc : List D), (l.foldl insD acc).length ≤ acc.length + l.length := fun l => by
    induction l with
    | nil => exact fun _ => Nat.le_refl _
    | cons y l ih =>
      intro acc
      have h1 := ih (insD acc y)
      have h2 : (insD acc y).length ≤ acc.length + 1 := by
        unfold insD
        split <;> simp
      rw [List.foldl_cons, List.length_cons]
      omega
  exact Nat.le_trans (key ys []) (by simp)
/-- the set at a holds the data ds; L: the tuples among them -/
inductive SU (P : Program) (w : World) (h : Heap) (a : Addr) (ds : List D) (L : TL) : Prop
  | tups : TS P w h a L → ds.Perm (L.map tupOf) → SU P w h a ds L
  | keys (ks : List Key) : ds = ks.map kD → ks ≠ [] → L = [] → KS P w h a ks → SU P w h a ds L
/-- what a set may be given behind ds: keys if all are keys .. -/
inductive El (P : Program) (w : World) (h : Heap) (ds : List D) : Value → D → Prop
  | key (k : Key) (u : Value) : keyIs k u = true → (∀ d ∈ ds, ∃ j, d = kD j) → ds.length + 1 < 4096 → El P w h ds u (kD k)
  | tup (b : Addr) (k : List Key) : IsTK P w h k b → (∀ d ∈ ds, ∃ j : List Key, d = .tup (j.map kD)) → ds.length < tupMax → El P w h ds (.ref b) (.tup (k.map kD))
section
variable {P : Program} {w : World} {A : Around} {E : Value → Shared → Prop} {s : Shared} {a : Addr} {L : TL} {ds : List D}
theorem kD_tup {k : Key} {ls : List D} : kD k ≠ .tup ls := by
  cases k <;> exact fun z => nomatch z
theorem ts_keys {h : Heap} (R : TS P w h a []) : KS P w h a [] := by
  obtain ⟨es, ep, t, R, _, hl⟩ := R.ex
  have r : es.toList = [] := R.rows
  have n : es.size = 0 := by rw [← Array.length_toList, r]; rfl
  refine ⟨es, ep, t, R.ob, fun e he => ?_, fun k => ?_, List.nodup_nil, n, by decide, R.fits, R.tab.ris, hl⟩
  · rw [r] at he
    exact nomatch he
  · rw [r]
    simp
/-- one is added -/
theorem addU (R : SU P w s.heap a ds L) (tp : Tups P w s.heap L) {v : Value} {d : D} (e : El P w s.heap ds v d) (hu : A.units < cLine) {Q : Bool → Shared → Prop}
    (hQ : ∀ b h' L' tk, s.toks ≤ tk → Heap.SameBut a s.heap h' → SU P w h' a (insD ds d) L' → (∀ p ∈ L', p ∈ L ∨ (Value.ref p.1 = v ∧ tupOf p = d)) → Q b { s with heap := h', toks := tk }) :
    wpAny (model P w) A (setAdd a v) Q E s := by
  unfold setAdd
  refine wpAny_holding ?_
  cases e with
  | key k u hk all few =>
    obtain ⟨ks, rfl, rfl, S⟩ : ∃ ks : List Key, ds = ks.map kD ∧ L = [] ∧ KS P w s.heap a ks := by
      cases R with
      | tups T pm =>
        have : L = [] := by
          cases L with
          | nil => rfl
          | cons p L =>
            obtain ⟨j, e⟩ := all (tupOf p) (pm.mem_iff.mpr (List.mem_cons_self))
            exact absurd e.symm kD_tup
        subst this
        have : ds = [] := pm.eq_nil
        subst this
        exact ⟨[], rfl, rfl, ts_keys T⟩
      | keys ks h1 h2 h3 h4 => exact ⟨ks, h1, h3, h4⟩
    refine wpAny_bind ((mixKind P w).pyHash (k := k) hk ?_)
    rw [List.length_map] at few
    refine ks_add (s := { s with toks := s.toks + 1 }) S hk few (fun m => ?_) fun h' m sb S2 => ?_
    · refine hQ _ s.heap [] (s.toks + 1) (Nat.le_succ _) (Heap.SameBut.refl a s.heap) (.keys ks (if_pos (List.mem_map.mpr ⟨k, m, rfl⟩)) (fun z => by rw [z] at m; exact nomatch m) rfl S) fun _ z => nomatch z
    · have m' : kD k ∉ ks.map kD := fun z => by
        obtain ⟨j, h1, h2⟩ := List.mem_map.mp z
        exact m (kD_inj h2 ▸ h1)
      exact hQ _ h' [] (s.toks + 1) (Nat.le_succ _) sb (.keys (ks ++ [k]) ((if_neg m').trans (by rw [List.map_append]; rfl)) (by simp) rfl S2) fun _ z => nomatch z
  | tup b k hk all few =>
    obtain ⟨T, pm⟩ : TS P w s.heap a L ∧ ds.Perm (L.map tupOf) := by
      cases R with
      | tups T pm => exact ⟨T, pm⟩
      | keys ks h1 h0 h2 h3 =>
        subst h1
        cases ks with
        | nil => exact absurd rfl h0
        | cons k0 ks =>
          obtain ⟨j, e⟩ := all (kD k0) (List.mem_map.mpr ⟨k0, List.mem_cons_self, rfl⟩)
          exact absurd e kD_tup
    refine wpAny_bind (wpAny_pyHash_tuple hu hk ?_)
    have few' : L.length < tupMax := by
      have := pm.length_eq
      rw [List.length_map] at this
      omega
    refine addK0 (s := { s with toks := s.toks + (k.length + 1) }) T tp hk hu few' fun c h' L' sb T' i1 i2 => ?_
    have mem : (.tup (k.map kD) : D) ∈ ds ↔ k ∈ L.map (·.2) := by
      rw [pm.mem_iff, List.mem_map, List.mem_map]
      constructor
      · rintro ⟨p, h1, h2⟩
        exact ⟨p, h1, kDs_inj (D.tup.inj h2)⟩
      · rintro ⟨p, h1, h2⟩
        exact ⟨p, h1, by unfold tupOf; rw [h2]⟩
    by_cases m : k ∈ L.map (·.2)
    · rw [i1 m] at T'
      refine hQ c h' L (s.toks + (k.length + 1)) (Nat.le_add_right _ _) sb (.tups T' ?_) fun p hp => .inl hp
      unfold insD
      rw [if_pos (mem.mpr m)]
      exact pm
    · have pm2 := i2 m
      refine hQ c h' L' (s.toks + (k.length + 1)) (Nat.le_add_right _ _) sb (.tups T' ?_) fun p hp => ?_
      · unfold insD
        rw [if_neg fun z => m (mem.mp z)]
        refine List.Perm.trans ?_ (pm2.map tupOf).symm
        rw [List.map_cons]
        exact List.perm_append_comm.trans (List.Perm.append (.refl _) pm)
      · rcases List.mem_cons.mp (pm2.mem_iff.mp hp) with rfl | z
        · exact .inr ⟨rfl, rfl⟩
        · exact .inl z
/-- a set of the data ds stands at a -/
def SetH (P : Program) (w : World) (a : Addr) (ds : List D) (L : TL) : HO := .ext fun h => SU P w h a ds L
theorem TS0.at {h h' : Heap} {es : Array (Int × Value)} {ep : Nat} {t : SetTable} (R : TS0 P w h a L es ep t) (k : ∀ o, h.get? a = some o → h'.get? a = some o) : TS0 P w h' a L es ep t :=
  ⟨let ⟨o, e, r⟩ := R.ob; ⟨o, k o e, r⟩, R.rows, R.tab, R.nd, R.room⟩
theorem KS0.at {h h' : Heap} {ks : List Key} {es : Array (Int × Value)} {ep : Nat} {t : SetTable} (R : KS0 P w h a ks es ep t) (k : ∀ o, h.get? a = some o → h'.get? a = some o) : KS0 P w h' a ks es ep t :=
  ⟨let ⟨o, e, r⟩ := R.ob; ⟨o, k o e, r⟩, R.el, R.mem, R.nd, R.sz, R.few, R.fits, R.ris, R.led⟩
theorem SU.at {h h' : Heap} (R : SU P w h a ds L) (k : ∀ o, h.get? a = some o → h'.get? a = some o) : SU P w h' a ds L := by
  cases R with
  | tups T pm =>
    obtain ⟨es, ep, t, R, m, l⟩ := T.ex
    exact .tups ⟨es, ep, t, R.at k, m, l⟩ pm
  | keys ks h1 h2 h3 h4 =>
    obtain ⟨es, ep, t, R⟩ := h4
    exact .keys ks h1 h2 h3 ⟨es, ep, t, R.at k⟩
/-- the object, its size -/
theorem SU.ob {h : Heap} (R : SU P w h a ds L) : ∃ o es ep t, h.get? a = some o ∧ o.ExactSet ∧ o.data = .set es ep t ∧ t.fits es.size = true ∧ es.size = ds.length := by
  cases R with
  | tups T pm =>
    obtain ⟨es, ep, t, R, m, l⟩ := T.ex
    obtain ⟨o, h1, h2, h3⟩ := R.ob
    exact ⟨o, es, ep, t, h1, h2, h3, R.fits, by rw [rows_len R.rows, pm.length_eq, List.length_map]⟩
  | keys ks h1 h2 h3 h4 =>
    obtain ⟨es, ep, t, R⟩ := h4
    obtain ⟨o, g1, g2, g3⟩ := R.ob
    exact ⟨o, es, ep, t, g1, g2, g3, R.fits, by rw [R.sz, h1, List.length_map]⟩
theorem setH_new {H : Hp} {h : Heap} (R : SU P w h a ds L) : ObjOk P w H h a (SetH P w a ds L) :=
  ⟨R, let ⟨o, _, _, _, e, _⟩ := R.ob; ⟨o, e⟩, fun _ _ p k => SU.at p k⟩
theorem ts_fresh {h : Heap} (ho : h.get? a = some { cls := .type "set", dict := none, data := .set #[] 0 (.fresh 0 0 (!w.params.followText "set-order")) }) : TS P w h a [] := by
  refine ⟨#[], 0, _, ⟨⟨_, ho, ⟨rfl, rfl, rfl⟩, rfl⟩, rfl, ⟨List.Pairwise.nil, rfl, rfl, full7, fun x hx => (by cases hx), fun i h j hi => (by simp at hi)⟩, List.nodup_nil, show 0 * 5 < 7 * 3 by decide⟩, .inl rfl, ?_⟩
  show _ ∨ (!w.params.followText "set-order") = true
  cases w.params.followText "set-order"
  · exact .inr rfl
  · exact .inl rfl
end
section
variable {X : Cx} {pins : List (Addr × Obj)} {σ : L2.St} {H : Hp} {s : Shared} {a : Addr} {ds : List D} {L : TL}
theorem setH_get (I : Inv X pins σ H s) (h : H a = some (SetH X.prog X.w a ds L)) : SU X.prog X.w s.heap a ds L := (I.hok a _ h).1
/-- a tuple of keys, as it lies -/
theorem tk_of (I : Inv X pins σ H s) {b : Addr} {k : List Key} (h : SqT X.K H b (k.map kV)) : IsTK X.prog X.w s.heap k b := by
  obtain ⟨its, r, ⟨o, ho, hc, n, hd⟩, _⟩ := I.tuple h
  exact ⟨o, its.toArray, n, ho, hc, hd, by simpa using items_are r⟩
/-- len of a set -/
theorem cr_lenH : CallR X (.builtin "len") (fun xs H Q => ∃ a ds L, xs = [V.ref a] ∧ H a = some (SetH X.prog X.w a ds L) ∧ ds.length < 2 ^ 62 ∧ Q (.int (ds.length : Nat)) H) := by
  intro pins s σ H xs us Q I r h
  obtain ⟨a, ds, L, rfl, ha, few, q⟩ := h
  rw [Vals.ref1 r]
  obtain ⟨o, es, ep, t, ho, hex, hd, hf, n⟩ := (setH_get I ha).ob
  refine call_len_set ho hex hd hf (by rw [n]; omega) ⟨.int (ds.length : Nat), H, I.tok _, ⟨_, by rw [n]⟩, q⟩
end
end CL

namespace CL
open PySem L2 PySem.Spec PyProof.Rows PpSet
/-- what a set may be given, as the layer sees it -/
inductive ElV (K : PySem.W.Frag) (H : Hp) (ds : List D) : V → D → Prop
  | key (k : Key) : (∀ d ∈ ds, ∃ j, d = kD j) → ds.length + 1 < 4096 → ElV K H ds (kV k) (kD k)
  | tup (b : Addr) (k : List Key) : SqT K H b (k.map kV) → (∀ d ∈ ds, ∃ j : List Key, d = .tup (j.map kD)) → ds.length < tupMax → ElV K H ds (.ref b) (.tup (k.map kD))
abbrev TupsV (K : PySem.W.Frag) (H : Hp) (L : TL) : Prop := ∀ p ∈ L, SqT K H p.1 (p.2.map kV)
section
variable {X : Cx} {pins : List (Addr × Obj)} {σ : L2.St} {H : Hp} {s : Shared} {a : Addr} {ds : List D} {L : TL} {A : Around} {E : Value → Shared → Prop}
theorem keyIs_of {k : Key} {u : Value} (r : RelV (kV k) u) : keyIs k u = true := by
  cases k with
  | inl i =>
    obtain ⟨t, rfl⟩ := r
    exact keyIs_int i t
  | inr x =>
    obtain ⟨t, rfl⟩ := r
    exact keyIs_str x t
theorem el_of (I : Inv X pins σ H s) {y : V} {u : Value} {d : D} (r : RelV y u) (e : ElV X.K H ds y d) : El X.prog X.w s.heap ds u d := by
  cases e with
  | key k h1 h2 => exact .key k u (keyIs_of r) h1 h2
  | tup b k h1 h2 h3 =>
    cases (show u = .ref b from r)
    exact .tup b k (tk_of I h1) h2 h3
/-- the set has one more -/
theorem setH_put (I : Inv X pins σ H s) (ha : H a = some (SetH X.prog X.w a ds L)) {h' : Heap} {ds' : List D} {L' : TL} {tk : Nat} (sb : Heap.SameBut a s.heap h') (R : SU X.prog X.w h' a ds' L') :
    Inv X pins σ (upd H a (SetH X.prog X.w a ds' L')) { s with heap := h', toks := tk } :=
  I.write (e := a) (t' := tk) (by rw [ha]; trivial) (.inl rfl) (fun b u hb hu => (sb.2 b hb).trans hu) (let ⟨o, _, _, _, e, _⟩ := R.ob; ⟨o, e⟩) (setH_new R)
theorem addH (I : Inv X pins σ H s) (ha : H a = some (SetH X.prog X.w a ds L)) (tp : TupsV X.K H L) {y : V} {u : Value} {d : D} (ry : RelV y u) (e : ElV X.K H ds y d) (hu : A.units + 8 < cLine) {Q : Value → Shared → Prop}
    (hQ : ∀ s' L', (∀ p ∈ L', p ∈ L ∨ (V.ref p.1 = y ∧ tupOf p = d)) → Inv X pins σ (upd H a (SetH X.prog X.w a (insD ds d) L')) s' → Q .none s') :
    wpAny (model X.prog X.w) A (call (.builtin "set.add") [.ref a, u]) Q E s := by
  have R := setH_get I ha
  obtain ⟨o, _, _, _, ho, hex, _⟩ := R.ob
  refine wpAny_call_entry F.slot_set_add ⟨o, ho, hex.1⟩ F.entry_set_add ?_ (F.args_set_add_2 _ _)
  unfold Builtin.«set.add» Builtin.Frozenset.oneOther
  simp only [List.isEmpty_nil, bind_assoc]
  unfold Builtin.Frozenset.addrOf
  refine wpAny_bind (wpAny_pure ?_)
  try dsimp only
  refine wpAny_bind (wpAny_pure ?_)
  try dsimp only
  refine wpAny_bind ?_
  refine addU R (fun p hp => tk_of I (tp p hp)) (el_of I ry e) ?_ fun b h' L' tk _ sb R' i => ?_
  · exact (show A.units + 1 < cLine by omega)
  · show wpAny _ _ (ret Value.none) _ _ _
    refine wpAny_pure ⟨_, rfl, hQ _ L' (fun p hp => ?_) (setH_put I ha sb R')⟩
    rcases i p hp with z | ⟨z1, z2⟩
    · exact .inl z
    · refine .inr ⟨?_, z2⟩
      cases e with
      | key k _ _ => exact absurd z2.symm kD_tup
      | tup b k _ _ _ =>
        have z := z1.trans (show u = .ref b from ry)
        injection z with z
        rw [z]
theorem ck_set {elt tg iter : Expr} {ifs : List Expr} {scope : Scope} {pos : Pos} : CKind X (.SetComp elt [⟨tg, iter, ifs, 0⟩] scope pos) tg iter ifs (newSet (.type "set")) { cls := .type "set", dict := none, data := .set #[] 0 (.fresh 0 0 (!X.w.params.followText "set-order")) }
    (fun D => SetH X.prog X.w D [] []) (fun D env => do let v ← eval elt env; standAt elt.pos; let _ ← call (.builtin "set.add") [.ref D, v]) where
  cl := rfl
  new := fun h => newSet_ok h
  obj := fun {_ _ _ s} I => setH_new (.tups (ts_fresh (Heap.get?_push_size _ rfl)) (.refl _))
  turn := fun it D env => compTurn_set elt tg iter ifs scope pos it (.ref D) env
  und := fun _ _ _ _ => rfl
  den := fun _ _ _ => rfl
  start := codeAny_compStart_set
/-- the store behind an element -/
def ΨS (P : Program) (w : World) (K : PySem.W.Frag) (D : Addr) (Nx : Hp → Prop) (vs : List V) (H : Hp) : Prop := ∃ y ds L d, vs = [y] ∧ H D = some (SetH P w D ds L) ∧ TupsV K H L ∧ ElV K H ds y d ∧
  ∀ L', (∀ p ∈ L', p ∈ L ∨ (V.ref p.1 = y ∧ tupOf p = d)) → Nx (upd H D (SetH P w D (insD ds d) L'))
/-- the set's content, of what was met -/
def CtS (P : Program) (w : World) (K : PySem.W.Frag) (mg : Str → Option Value) (D : Addr) : CtR := fun H Lv cs o yss => ∃ L, o = SetH P w D (ddL (yss.map fun l => l.headD .non)) L ∧ ∀ p ∈ L, R K mg H Lv cs (.ref p.1) (tupOf p)
theorem ctS_ok {P : Program} {w : World} {K : PySem.W.Frag} {mg : Str → Option Value} (D : Addr) : CtOk (CtS P w K mg D) where
  tup := fun ⟨_, e, _⟩ xs z => by rw [e] at z; exact nomatch z
  mono := fun e ⟨L, h1, h2⟩ => ⟨L, h1, fun p hp => (h2 p hp).mono e⟩
/-- what is to be put in may be put in -/
def okEl (ys : List D) (d : D) : Prop := (∃ k, d = kD k ∧ (∀ x ∈ ys, ∃ j, x = kD j) ∧ ys.length + 1 < 4096) ∨ ∃ k : List Key, d = .tup (k.map kD) ∧ (∀ x ∈ ys, ∃ j : List Key, x = .tup (j.map kD)) ∧ ys.length < tupMax ∧ k ≠ []
theorem sqt_of {K : PySem.W.Frag} {mg : Str → Option Value} {H : Hp} {Lv : Addr → Prop} {cs : List Addr} {b : Addr} {k : List Key} (r : R K mg H Lv cs (.ref b) (.tup (k.map kD))) : SqT K H b (k.map kV) := by
  generalize hd : D.tup (k.map kD) = d at r
  cases r with
  | tup h rl =>
    cases hd
    rw [← rl.keys]
    rcases h with ⟨h, _⟩ | ⟨rfl, h⟩
    · exact .inl (.inl h)
    · exact .inr (let ⟨o, its, n, h1, h2, h3, h4, h5⟩ := h; ⟨o, its, n, h1, h2, h3, h4, h5⟩)
  | _ => exact nomatch hd
theorem ΨS_ok {K : PySem.W.Frag} {mg : Str → Option Value} {P : Program} {w : World} (p : Addr) (Nx : Hp → Prop) (vs : List V) (H : Hp) (ρ : Lc) (μ : Mem) (o : HO) (yss : List (List D)) (ds : List D) (_ : Wd K mg H ρ μ) (_ : p ∈ ρ.hid) (hp : H p = some o) (ct : CtS P w K mg p H (Live ρ μ) ρ.cs o yss)
    (rl : RLm K mg H ρ μ vs ds) (ok : ∃ d, ds = [d] ∧ okEl (yss.map fun l => l.headD .non) d) (hn : ∀ o', CtS P w K mg p H (Live ρ μ) ρ.cs o' (yss ++ [ds]) → Nx (upd H p o')) : ΨS P w K p Nx vs H := by
  obtain ⟨d, rfl, ok⟩ := ok
  obtain ⟨L, rfl, hL⟩ := ct
  cases rl with
  | cons r t =>
    cases t
    rename_i y
    have sub : ∀ x ∈ ddL (yss.map fun l => l.headD .non), x ∈ yss.map fun l => l.headD .non := fun x hx => (ddL_mem _ x).mp hx
    have len := ddL_len (yss.map fun l => l.headD .non)
    refine ⟨y, _, L, d, rfl, hp, fun q hq => sqt_of (hL q hq), ?_, fun L' hL' => hn _ ⟨L', ?_, fun q hq => ?_⟩⟩
    · rcases ok with ⟨k, rfl, h1, h2⟩ | ⟨k, rfl, h1, h2, h3⟩
      · rw [r.key]
        exact .key k (fun x hx => h1 x (sub x hx)) (by omega)
      · cases y with
        | ref b => exact .tup b k (sqt_of r) (fun x hx => h1 x (sub x hx)) (by omega)
        | _ => exact nomatch r
    · rw [List.map_append]
      exact congrArg (fun z => SetH P w p z L') (ddL_snoc _ _).symm
    · rcases hL' q hq with z | ⟨z1, z2⟩
      · exact hL q z
      · rw [z1, z2]
        exact r
/-- all that is put in may be put in, one after another -/
def isKD : D → Bool
  | .int _ => true
  | .str _ => true
  | _ => false
def isTD : D → Bool
  | .tup ls => ls.all isKD && !ls.isEmpty
  | _ => false
def setOk (ys : List D) : Bool := (ys.all isKD && decide (ys.length < 4096)) || (ys.all isTD && decide (ys.length ≤ tupMax))
theorem isKD_ex {d : D} (h : isKD d = true) : ∃ k, d = kD k := by
  cases d with
  | int i => exact ⟨.inl i, rfl⟩
  | str x => exact ⟨.inr x, rfl⟩
  | _ => exact nomatch h
theorem isKDs_ex : ∀ {ls : List D}, ls.all isKD = true → ∃ k : List Key, ls = k.map kD
  | [], _ => ⟨[], rfl⟩
  | d :: ls, h => by
    rw [List.all_cons, Bool.and_eq_true] at h
    obtain ⟨k, rfl⟩ := isKD_ex h.1
    obtain ⟨ks, rfl⟩ := isKDs_ex h.2
    exact ⟨k :: ks, rfl⟩
theorem isTD_ex {d : D} (h : isTD d = true) : ∃ k : List Key, d = .tup (k.map kD) ∧ k ≠ [] := by
  cases d with
  | tup ls =>
    have h : (ls.all isKD && !ls.isEmpty) = true := h
    rw [Bool.and_eq_true] at h
    obtain ⟨k, rfl⟩ := isKDs_ex h.1
    exact ⟨k, rfl, fun z => by rw [z] at h; exact nomatch h.2⟩
  | _ => exact nomatch h
theorem setOk_el {ys zs : List D} {d : D} (h : setOk (ys ++ d :: zs) = true) : okEl ys d := by
  unfold setOk at h
  simp only [Bool.or_eq_true, Bool.and_eq_true, List.all_append, List.all_cons, decide_eq_true_eq, List.length_append, List.length_cons] at h
  rcases h with ⟨⟨h1, h2, _⟩, h3⟩ | ⟨⟨h1, h2, _⟩, h3⟩
  · obtain ⟨k, e⟩ := isKD_ex h2
    exact .inl ⟨k, e, fun x hx => isKD_ex (List.all_eq_true.mp h1 x hx), by omega⟩
  · obtain ⟨k, e, n⟩ := isTD_ex h2
    exact .inr ⟨k, e, fun x hx => let ⟨j, q, _⟩ := isTD_ex (List.all_eq_true.mp h1 x hx); ⟨j, q⟩, by omega, n⟩
theorem compL_all {t : Its} {put : D → CL.Env → Option CL.Env} {tt : MB} {te : ML} {Pd : List D → Prop} (h : ∀ env μ ds m, te env μ = .ok ds m → Pd ds) : ∀ (env : CL.Env) (ds : List D) (μ : Mem) (yss : List (List D)) (m : Mem), compL t put tt te env ds μ = .ok yss m → ∀ x ∈ yss, Pd x
  | env, [], μ, yss, m, e => by
    unfold compL at e
    split at e
    · cases e
      exact fun _ z => nomatch z
    · exact nomatch e
  | env, d :: ds, μ, yss, m, e => by
    unfold compL at e
    split at e
    · split at e
      · exact nomatch e
      · obtain ⟨b, m1, h1, e⟩ := bindN_ok e
        split at e
        · obtain ⟨y, m2, h2, e⟩ := bindN_ok e
          obtain ⟨ys, m3, h3, e⟩ := bindN_ok e
          cases e
          intro x hx
          rcases List.mem_cons.mp hx with rfl | hx
          · exact h _ _ _ _ h2
          · exact compL_all h env ds m2 ys m h3 x hx
        · exact compL_all h env ds m1 yss m e
    · exact nomatch e
/-- {te for t in mi if tt}, then k of what is in it -/
def mSetC (k : List D → M D) (mi : MI) (tg : Tgt) (tt : MB) (te : ME) (vs : List Nat) : ME := fun env μ => (mi env μ).bind fun t m => (compL t tg.put tt (mCons te mNil) (wipeE env vs) t.items m).bindN fun yss m' =>
  if setOk (yss.map fun l => l.headD .non) = true then k (ddL (yss.map fun l => l.headD .non)) m' else .no
def kLen : List D → M D := fun ds μ => .ok (.int (ds.length : Nat)) μ
/-- what takes a set and is done with it -/
def SetUse (X : Cx) (r : List V → Hp → VK → Prop) (k : List D → M D) : Prop := ∀ (H : Hp) (ρ : Lc) (μ : Mem) (a : Addr) (ds : List D) (L : TL) (Q : VK) (E : XK), H a = some (SetH X.prog X.w a ds L) → ds.Nodup → ds.length < 4097 → Wd X.K X.mg H ρ μ →
  Post X.K X.mg (k ds μ) H ρ μ Q E → r [.ref a] H Q
theorem use_len : SetUse X (fun xs H Q => ∃ a ds L, xs = [V.ref a] ∧ H a = some (SetH X.prog X.w a ds L) ∧ ds.length < 2 ^ 62 ∧ Q (.int (ds.length : Nat)) H) kLen := fun H ρ μ a ds L Q E ha nd hl w p =>
  ⟨a, ds, L, rfl, ha, by omega, Post.ok w p (.int _)⟩
theorem setC_in {W : WX} {r : List V → Hp → VK → Prop} {k : List D → M D} (hk : SetUse X r k) {mi : MI} {t : Tgt} {tt : MB} {te : ME} {vs : List Nat} (ht : ∀ i ∈ t.slots, i ∈ vs) {Q : VK} (h : tM X.K X.mg W (mSetC k mi t tt te vs) σ H Q) :
    tGc (fun D => SetH X.prog X.w D [] []) (tMI X.K X.mg W mi) (gM X.K X.mg t) (tMB X.K X.mg W0 tt) (fun D Nx σ H => tM X.K X.mg W0 te σ H fun y H' => ΨS X.prog X.w X.K D Nx [y] H') vs σ H (fun v H' => r [v] H' Q) := by
  obtain ⟨ρ, μ, env, w, re, p⟩ := h
  have p0 : PostI X.K X.mg (mi env μ) H ρ μ (fun J H1 => ∃ t' ρ1 μ1, Exm H ρ μ H1 ρ1 μ1 ∧ Wd X.K X.mg H1 ρ1 μ1 ∧ WalkM X.K X.mg J t' H1 ρ1 μ1 ∧ Post X.K X.mg ((compL t' t.put tt (mCons te mNil) (wipeE env vs) t'.items μ1).bindN fun yss m' =>
      if setOk (yss.map fun l => l.headD .non) = true then k (ddL (yss.map fun l => l.headD .non)) m' else .no) H1 ρ1 μ1 Q (fun c od H' => W c od σ H')) (fun c od H' => W c od σ H') := by
    unfold mSetC at p
    cases hmi : mi env μ with
    | ok t' m => rw [hmi] at p; exact fun J H1 ρ1 e w1 wk => ⟨t', ρ1, m, e, w1, wk, Post.base e p⟩
    | ex c x m => rw [hmi] at p; exact p
    | no => rw [hmi] at p; exact p
  refine ⟨ρ, μ, env, w, re, PostI.imp p0 (fun J H1 ⟨its, ρ1, μ1, e1, w1, wk, p1⟩ => fun Dd hD => ?_) fun _ _ _ z => z⟩
  obtain ⟨ys0, m0, hr, p2⟩ := bindN_ne p1
  by_cases hso : setOk (ys0.map fun l => l.headD .non) = true
  · rw [if_pos hso] at p2
    refine comp_coreG (Q := fun v H' => r [v] H' Q) (Φ := fun D Nx σ H => tM X.K X.mg W0 te σ H fun y H' => ΨS X.prog X.w X.K D Nx [y] H') (o0 := fun D => SetH X.prog X.w D [] []) (Ψ := ΨS X.prog X.w X.K) (Ct := CtS X.prog X.w X.K X.mg) (OK := fun yss ds => ∃ d, ds = [d] ∧ okEl (yss.map fun l => l.headD .non) d) ctS_ok (fun _ _ _ _ => ⟨[], rfl, fun _ z => nomatch z⟩) (fun p Nx σ H ρ μ env ds μ' w re hte z => ?_) ΨS_ok ht w1 (re.mono e1) wk hr (fun ys ds zs e => ?_) Dd hD fun H2 ρ2 o ex hh hid w2 hDd ct => ?_
    · unfold mCons at hte
      refine ⟨ρ, μ, env, w, re, ?_⟩
      cases h1 : te env μ with
      | ok d m =>
        rw [h1] at hte
        cases hte
        exact fun v H' ρ' e' w' r' => z [v] H' ρ' e' w' (.one r')
      | ex c x m => rw [h1] at hte; exact nomatch hte
      | no => rw [h1] at hte; exact nomatch hte
    · obtain ⟨d, rfl⟩ := compL_all (Pd := fun ds => ∃ d, ds = [d]) (fun env μ ds m h => by
        unfold mCons at h
        cases h1 : te env μ with
        | ok d m =>
          rw [h1] at h
          cases h
          exact ⟨d, rfl⟩
        | ex c x m => rw [h1] at h; exact nomatch h
        | no => rw [h1] at h; exact nomatch h) _ _ _ _ _ hr ds (by rw [e]; simp)
      refine ⟨d, rfl, setOk_el (zs := zs.map fun l => l.headD .non) ?_⟩
      rw [e, List.map_append] at hso
      exact hso
    · obtain ⟨L, rfl, hL⟩ := ct
      obtain ⟨exf, e', w', nl⟩ := unhide (fun a ha => let ⟨o, e, _⟩ := (w1.hid a ha).1; ⟨o, e⟩) ex hh hid w2 hD
      refine hk H2 ⟨ρ2.cs, ρ1.hid⟩ m0 Dd _ L Q _ hDd (ddL_nodup _) ?_ w' (Post.base e' p2)
      have := ddL_len (ys0.map fun l => l.headD .non)
      unfold setOk tupMax at hso
      simp only [Bool.or_eq_true, Bool.and_eq_true, decide_eq_true_eq] at hso
      omega
  · rw [if_neg hso] at p2
    exact False.elim p2
theorem bl_set {elt : Expr} {te : ME} {scope : Scope} (hu : X.A.units + 8 < cLine) (s : Shared) (H : Hp) (C : Addr) (cl : List (Str × Addr)) (fp : List Addr) (he : SE (Bl X s H scope cl C fp) W0 elt te) (pins : List (Addr × Obj)) (s' : Shared) (σ' : L2.St) (H' : Hp) (D : Addr) (Nx : Hp → Prop)
    (I : Inv (Bl X s H scope cl C fp) pins σ' H' s') (q : tM X.K X.mg W0 te σ' H' fun y H' => ΨS X.prog X.w X.K D Nx [y] H') :
    wpAny (model X.prog X.w) X.A (do let v ← eval elt (compEnvC scope cl C X.env); standAt elt.pos; let _ ← call (.builtin "set.add") [.ref D, v]) (fun _ s2 => ∃ H2, Inv (Bl X s H scope cl C fp) pins σ' H2 s2 ∧ Nx H2) (fun _ _ => False) s' := by
  refine wpAny_bind (wpAny_mono (he.run pins s' σ' H' _ I q) (fun v s1 ⟨y, H1, I1, ry, q1⟩ => ?_) fun _ _ z => z)
  obtain ⟨y', ds, L, d, e, hD, tp, el, hN⟩ := q1
  cases e
  refine wpAny_bind (wpAny_standAt (wpAny_bind ?_))
  exact addH (X := Bl X s H scope cl C fp) I1 hD tp ry el hu fun s2 L' hL I2 => wpAny_pure ⟨_, I2, hN L' hL⟩
/-- x({elt for tg in iter if ..}) -/
theorem se_setC {W : WX} {n : Nat} {x : Str} {p cpos pos : Pos} {id : String} {elt tg iter : Expr} {ifs : List Expr} {scope : Scope} {own : List (Str × Nat)} {mi : MI} {t : Tgt} {tt : MB} {te : ME} {r : List V → Hp → VK → Prop} {k : List D → M D} (hr : RmG n X.A) (hcr : CallR X (.builtin id) r) (hk : SetUse X r k) (hm : X.mg x = none) (hv : bootBuiltins x = some (.builtin id))
    (hc : X.calm = true) (hN : X.N.Nodup) (hi : SI X W tg iter mi) (ok : BlkOk X.N X.env.scope scope own) (ht : ∀ i ∈ t.slots, i ∈ own.map (·.2))
    (hg : ∀ (s : Shared) (H : Hp) (C : Addr) (cl : List (Str × Addr)) (fp : List Addr), SG (Bl X s H scope cl C fp) tg t) (hts : ∀ (s : Shared) (H : Hp) (C : Addr) (cl : List (Str × Addr)) (fp : List Addr), STs (Bl X s H scope cl C fp) W0 ifs tt)
    (he : ∀ (s : Shared) (H : Hp) (C : Addr) (cl : List (Str × Addr)) (fp : List Addr), SE (Bl X s H scope cl C fp) W0 elt te) (hs : ∀ x, foldedSetIterable iter X.env x = pure x := by intro _; rfl) (hx : Gl X x := by rfl)
    (hn : x ≠ "__name__" := by decide) (hdb : (x == ("__debug__" : Str)) = false := by decide)
    (hst : starEach [.SetComp elt [⟨tg, iter, ifs, 0⟩] scope cpos] X.env = (false, eval (.SetComp elt [⟨tg, iter, ifs, 0⟩] scope cpos) X.env) :: starEach [] X.env := by rfl) (hpl : (backTo pos (starEach [] X.env)).any (·.1) = false := by rfl) :
    SE X W (.Call (.Name x p) [.SetComp elt [⟨tg, iter, ifs, 0⟩] scope cpos] [] pos) (mSetC k mi t tt te (own.map (·.2))) := by
  have hu : X.A.units + 8 < cLine := by have := hr.un; omega
  refine PE.imp (pe_callB hcr hx hm hv (pa_cons (pe_ckind (g := gM X.K X.mg t) (tt := tMB X.K X.mg W0 tt) (Φ := fun D Nx σ H => tM X.K X.mg W0 te σ H fun y H' => ΨS X.prog X.w X.K D Nx [y] H') ck_set (eval_SetComp elt [⟨tg, iter, ifs, 0⟩] scope cpos) hc hN hi ok hg hts (fun s H C cl fp pins s' σ' H' D Nx I q => bl_set hu s H C cl fp (he s H C cl fp) pins s' σ' H' D Nx I q) hs) pa_nil hst) hn hdb hst hpl) fun σ H Q h => ?_
  exact setC_in hk ht h
end
end CL

namespace CL
open PySem L2 PySem.Spec PyProof.Rows
abbrev oDct : Bool → HO
  | true => .dT []
  | false => .dK []
/-- d[y] = z behind an element -/
def ΨD (t : Bool) (D : Addr) (Nx : Hp → Prop) (vs : List V) (H : Hp) : Prop := ∃ y z, vs = [y, z] ∧ ((t = false ∧ ∃ kvs k, y = kV k ∧ H D = some (.dK kvs) ∧ kvs.length < sizeLine ∧ Nx (upd H D (.dK (putK kvs k z)))) ∨
  (t = true ∧ ∃ kvs k b, y = .ref b ∧ H b = some (.tup (k.map kV)) ∧ H D = some (.dT kvs) ∧ kvs.length < sizeLine ∧ Nx (upd H D (.dT (putK kvs k z)))))
def kdsOf (yss : List (List D)) : List (D × D) := yss.foldl (fun acc l => match l with
  | [k, v] => dput acc k v
  | _ => acc) []
theorem kdsOf_snoc (yss : List (List D)) (k v : D) : kdsOf (yss ++ [[k, v]]) = dput (kdsOf yss) k v := by
  unfold kdsOf
  rw [List.foldl_append]
  rfl
/-- the dict's content, of what was met -/
def CtD (K : PySem.W.Frag) (mg : Str → Option Value) (t : Bool) : CtR := fun H Lv cs o yss =>
  (t = false ∧ ∃ kvs ds, o = .dK kvs ∧ RL K mg H Lv cs (kvs.map (·.2)) ds ∧ kdsOf yss = (kvs.map fun p => kD p.1).zip ds ∧ kvs.length ≤ yss.length) ∨
  (t = true ∧ ∃ kvs ds, o = .dT kvs ∧ RL K mg H Lv cs (kvs.map (·.2)) ds ∧ kdsOf yss = (kvs.map fun p => D.tup (p.1.map kD)).zip ds ∧ kvs.length ≤ yss.length)
theorem ctD_ok {K : PySem.W.Frag} {mg : Str → Option Value} (t : Bool) : CtOk (CtD K mg t) where
  tup := fun h xs z => by
    rcases h with ⟨_, _, _, e, _⟩ | ⟨_, _, _, e, _⟩ <;> rw [e] at z <;> exact nomatch z
  mono := fun e h => by
    rcases h with ⟨h0, kvs, ds, h1, h2, h3⟩ | ⟨h0, kvs, ds, h1, h2, h3⟩
    · exact .inl ⟨h0, kvs, ds, h1, h2.mono e, h3⟩
    · exact .inr ⟨h0, kvs, ds, h1, h2.mono e, h3⟩
theorem putK_len {κ : Type} [DecidableEq κ] (kvs : List (κ × V)) (k : κ) (v : V) : (putK kvs k v).length ≤ kvs.length + 1 := length_putK kvs k v
theorem ΨD_ok {K : PySem.W.Frag} {mg : Str → Option Value} {t : Bool} (p : Addr) (Nx : Hp → Prop) (vs : List V) (H : Hp) (ρ : Lc) (μ : Mem) (o : HO) (yss : List (List D)) (ds : List D) (w : Wd K mg H ρ μ) (_ : p ∈ ρ.hid) (hp : H p = some o) (ct : CtD K mg t H (Live ρ μ) ρ.cs o yss)
    (rl : RLm K mg H ρ μ vs ds) (ok : yss.length < lim ∧ ∃ k v, ds = [k, v] ∧ keyOk t k = true) (hn : ∀ o', CtD K mg t H (Live ρ μ) ρ.cs o' (yss ++ [ds]) → Nx (upd H p o')) : ΨD t p Nx vs H := by
  obtain ⟨hlim, k, v, rfl, hk⟩ := ok
  cases rl with
  | cons r1 rl =>
    cases rl with
    | cons r2 rl =>
      cases rl
      rename_i y z
      refine ⟨y, z, rfl, ?_⟩
      rcases ct with ⟨rfl, kvs, es, rfl, h2, h3, h4⟩ | ⟨rfl, kvs, es, rfl, h2, h3, h4⟩
      · obtain ⟨kk, e⟩ := Option.isSome_iff_exists.mp (show (toK k).isSome = true from hk)
        have e := toK_eq e
        subst e
        refine .inl ⟨rfl, kvs, kk, r1.key, hp, lim_lt (by omega), hn _ (.inl ⟨rfl, putK kvs kk z, ?_⟩)⟩
        obtain ⟨es', q1, q2⟩ := dput_rel (f := kD) (fun _ _ => kD_inj) r2 h2 kk
        exact ⟨es', rfl, q1, by rw [kdsOf_snoc, h3]; exact q2, by have := putK_len kvs kk z; simp; omega⟩
      · cases k with
        | tup ls =>
          obtain ⟨b, kk, rfl, hb, rfl⟩ := key_tup r1 hk
          refine .inr ⟨rfl, kvs, kk, b, rfl, hb, hp, lim_lt (by omega), hn _ (.inr ⟨rfl, putK kvs kk z, ?_⟩)⟩
          obtain ⟨es', q1, q2⟩ := dput_rel (f := fun k : List Key => D.tup (k.map kD)) (fun _ _ => dT_inj) r2 h2 kk
          exact ⟨es', rfl, q1, by rw [kdsOf_snoc, h3]; exact q2, by have := putK_len kvs kk z; simp; omega⟩
        | _ => exact nomatch hk
section
variable {X : Cx} {pins : List (Addr × Obj)} {σ : L2.St} {H : Hp} {s : Shared} {E : Value → Shared → Prop}
theorem ck_dict {kx vx tg iter : Expr} {ifs : List Expr} {scope : Scope} {pos : Pos} (t : Bool) : CKind X (.DictComp kx vx [⟨tg, iter, ifs, 0⟩] scope pos) tg iter ifs newDict { cls := .type "dict", data := .dict #[] } (fun _ => oDct t)
    (fun D env => do
      let kv ← eval kx env
      let vv ← holding [kv] (eval vx env)
      standAt { kx.pos with endLine := vx.pos.endLine, endCol := vx.pos.endCol }
      holding [kv, vv] (dictSet D kv vv)) where
  cl := rfl
  new := fun h => wpAny_newObj_type h
  obj := fun {_ _ _ s} I => by
    cases t with
    | true => exact dt_empty s.heap I.big
    | false => exact dk_empty s.heap I.big
  turn := fun it D env => compTurn_dict kx vx tg iter ifs scope pos it D env
  und := fun _ _ _ _ => rfl
  den := fun _ _ _ => rfl
  start := codeAny_compStart_dict
theorem d_dictSetT {D b : Addr} {kvs : List (List Key × V)} {k : List Key} {v : V} {r : Value} {Q : Unit → Shared → Prop} (hu : X.A.units + 1 < cLine) (I : Inv X pins σ H s) (hD : H D = some (.dT kvs)) (hb : H b = some (.tup (k.map kV))) (hz : kvs.length < sizeLine)
    (rv : RelV v r) (h : ∀ s', Inv X pins σ (upd H D (.dT (putK kvs k v))) s' → Q () s') : wpAny (model X.prog X.w) X.A (dictSet D (.ref b) r) Q E s := by
  obtain ⟨_, nd, xs, rel, dd⟩ := dt_of I.hok hD
  have z1 : xs.length ≤ sizeLine := by
    rw [← Paired.length rel]
    omega
  have z2 : (putK kvs k v).length ≤ sizeLine := by
    have := length_putK kvs k v
    omega
  refine wpAny_dictSet_heap (hsz := z1) (show X.A.units < cLine by omega) (key_of I.hok hb) dd fun h' dd' sb => h _ ?_
  obtain ⟨q, es, ep, hq, g2, g3, g4, _, g5⟩ := dd'
  refine d_write I (by rw [hD]; trivial) sb ⟨q, hq⟩ ⟨z2, nd, _, (rel.put k hb rv).keeps fun c ys ec => ?_, q, es, ep, hq, g2, g3, g4, g5⟩
  exact (upd_ne (ne_of ec hD fun z => nomatch z)).trans ec
theorem bl_dict {t : Bool} {kx vx : Expr} {mk mv : ME} {scope : Scope} (hu : X.A.units + 1 < cLine) (s : Shared) (H : Hp) (C : Addr) (cl : List (Str × Addr)) (fp : List Addr) (hk : SE (Bl X s H scope cl C fp) W0 kx mk) (hv : SE (Bl X s H scope cl C fp) W0 vx mv)
    (pins : List (Addr × Obj)) (s' : Shared) (σ' : L2.St) (H' : Hp) (D : Addr) (Nx : Hp → Prop)
    (I : Inv (Bl X s H scope cl C fp) pins σ' H' s') (q : tM X.K X.mg W0 mk σ' H' fun y H4 => tM X.K X.mg W0 mv σ' H4 fun z H5 => ΨD t D Nx [y, z] H5) :
    wpAny (model X.prog X.w) X.A (do
      let kv ← eval kx (compEnvC scope cl C X.env)
      let vv ← holding [kv] (eval vx (compEnvC scope cl C X.env))
      standAt { kx.pos with endLine := vx.pos.endLine, endCol := vx.pos.endCol }
      holding [kv, vv] (dictSet D kv vv)) (fun _ s2 => ∃ H2, Inv (Bl X s H scope cl C fp) pins σ' H2 s2 ∧ Nx H2) (fun _ _ => False) s' := by
  refine wpAny_bind (wpAny_mono (hk.run pins s' σ' H' _ I q) (fun kv s1 ⟨y, H1, I1, ry, q1⟩ => ?_) fun _ _ z => z)
  refine wpAny_bind (wpAny_holding (wpAny_mono (hv.run pins s1 σ' H1 _ I1 q1) (fun vv s2 ⟨z, H2, I2, rz, q2⟩ => ?_) fun _ _ z => z))
  refine wpAny_bind (wpAny_standAt (wpAny_holding ?_))
  obtain ⟨y', z', e, q2⟩ := q2
  cases e
  rcases q2 with ⟨_, kvs, k, rfl, hD, hz, hN⟩ | ⟨_, kvs, k, b, rfl, hb, hD, hz, hN⟩
  · exact d_dictSet (X := Bl X s H scope cl C fp) I2 hD hz ry rz fun s3 I3 => ⟨_, I3, hN⟩
  · cases (show kv = .ref b from ry)
    exact d_dictSetT (X := Bl X s H scope cl C fp) hu I2 hD hb hz rz fun s3 I3 => ⟨_, I3, hN⟩
/-- what becomes of a new dict -/
def kDFz (t : Bool) : List (D × D) → M D := fun kds μ => .ok (.dct t kds) μ
def kDCe (t : Bool) : List (D × D) → M D := fun kds μ => .ok (.cel μ.length) (μ ++ [some (.dct t kds)])
def DNew (K : PySem.W.Frag) (mg : Str → Option Value) (t : Bool) (k : List (D × D) → M D) : Prop :=
  ∀ (H1 : Hp) (ρ1 : Lc) (μ1 : Mem) (H2 : Hp) (ρ2 : Lc) (m : Mem) (p : Addr) (o : HO) (yss : List (List D)) (Q : VK) (E : XK), (∀ a ∈ ρ1.hid, ∃ o, H1 a = some o) → Exx H1 (Live ρ1 μ1) ρ1.cs H2 (Live ρ2 m) ρ2.cs → (∀ a ∈ ρ1.hid, H2 a = H1 a) → ρ2.hid = p :: ρ1.hid → Wd K mg H2 ρ2 m → H1 p = none → H2 p = some o →
    CtD K mg t H2 (Live ρ2 m) ρ2.cs o yss → Post K mg (k (kdsOf yss) m) H1 ρ1 μ1 Q E → Q (.ref p) H2
theorem kDFz_ok {K : PySem.W.Frag} {mg : Str → Option Value} (t : Bool) : DNew K mg t (kDFz t) := fun H1 ρ1 μ1 H2 ρ2 m p o yss Q E ht ex hh hid w hn ho ct P => by
  obtain ⟨exf, e', w', nl⟩ := unhide ht ex hh hid w hn
  refine P (.ref p) H2 ⟨ρ2.cs, ρ1.hid⟩ e' w' ?_
  rcases (ctD_ok t).mono exf ct with ⟨rfl, kvs, ds, rfl, h2, h3, _⟩ | ⟨rfl, kvs, ds, rfl, h2, h3, _⟩
  · rw [h3]
    exact .dK (.inl ho) nl rfl h2 rfl
  · rw [h3]
    exact .dT (.inl ho) nl rfl h2 rfl
theorem kDCe_ok {K : PySem.W.Frag} {mg : Str → Option Value} (t : Bool) : DNew K mg t (kDCe t) := fun H1 ρ1 μ1 H2 ρ2 m p o yss Q E ht ex hh hid w hn ho ct P => by
  obtain ⟨exf, e', w', nl⟩ := unhide ht ex hh hid w hn
  have nh : p ∉ ρ1.hid := fun z => let ⟨o, e⟩ := ht p z; by rw [hn] at e; exact nomatch e
  have nc : p ∉ ρ2.cs := (w.hid p (by rw [hid]; exact List.mem_cons_self)).2
  -- the dict becomes a cell
  have lf : ∀ a, Live ⟨ρ2.cs ++ [p], ρ1.hid⟩ (m ++ [some (.dct t (kdsOf yss))]) a → a = p ∨ Live ⟨ρ2.cs, ρ1.hid⟩ m a := fun a l => by
    rcases l with l | ⟨i, d, h1, h2, h3⟩
    · exact .inr (.inl l)
    · by_cases hi : i < ρ2.cs.length
      · rw [List.getElem?_append_left hi] at h1
        rw [List.getElem?_append_left (by rw [← w.len]; exact hi)] at h2
        exact .inr (.inr ⟨i, d, h1, h2, h3⟩)
      · rw [List.getElem?_append_right (by omega)] at h1
        exact .inl (List.mem_singleton.mp (List.mem_of_getElem? h1))
  have ex2 : Exx H2 (Live ρ2 m) ρ2.cs H2 (Live ⟨ρ2.cs ++ [p], ρ1.hid⟩ (m ++ [some (.dct t (kdsOf yss))])) (ρ2.cs ++ [p]) := ⟨fun _ _ e _ => .inl e, fun a _ _ l => by
    rcases lf a l with rfl | l
    · exact .inl (by rw [hid]; exact List.mem_cons_self)
    · exact exf.live a _ (by assumption) l, fun i a h => by
    rw [List.getElem?_append_left (List.getElem?_eq_some_iff.mp h).1]
    exact h⟩
  refine P (.ref p) H2 ⟨ρ2.cs ++ [p], ρ1.hid⟩ ⟨ex.trans ex2, rfl, hh⟩ ⟨by simp [w.len], ?_, fun a ha => ?_, fun a ha => ?_, fun i d a h1 h2 => ?_⟩ (.cel (by rw [← w.len]; simp))
  · rw [List.nodup_append]
    exact ⟨w.nd, by simp, fun a ha b hb z => nc (by rw [List.mem_singleton.mp hb] at z; rw [← z]; exact ha)⟩
  · rcases List.mem_append.mp ha with ha | ha
    · exact w.trk a ha
    · rw [List.mem_singleton.mp ha]
      exact ⟨_, ho⟩
  · obtain ⟨h1, h2⟩ := w.hid a (by rw [hid]; exact List.mem_cons_of_mem _ ha)
    refine ⟨h1, fun z => ?_⟩
    rcases List.mem_append.mp z with z | z
    · exact h2 z
    · rw [List.mem_singleton.mp z] at ha
      exact nh ha
  · by_cases hi : i < ρ2.cs.length
    · have h2' : (ρ2.cs ++ [p])[i]? = some a := h2
      rw [List.getElem?_append_left hi] at h2'
      rw [List.getElem?_append_left (by rw [← w.len]; exact hi)] at h1
      exact (w.cell i d a h1 h2').mono ex2 fun _ => rfl
    · have h2' : (ρ2.cs ++ [p])[i]? = some a := h2
      rw [List.getElem?_append_right (by omega)] at h2'
      rw [List.getElem?_append_right (by rw [← w.len]; omega)] at h1
      have e1 := List.mem_singleton.mp (List.mem_of_getElem? h2')
      have e2 := Option.some.inj (List.mem_singleton.mp (List.mem_of_getElem? h1))
      subst e1 e2
      rcases (ctD_ok t).mono ex2 ct with ⟨rfl, kvs, ds, rfl, g2, g3, _⟩ | ⟨rfl, kvs, ds, rfl, g2, g3, _⟩
      · exact ⟨kvs, ds, ho, g2, g3⟩
      · exact ⟨kvs, ds, ho, g2, g3⟩
/-- {mk: mv for t in mi if tt} -/
def mDictC (t : Bool) (k : List (D × D) → M D) (mi : MI) (tg : Tgt) (tt : MB) (mk mv : ME) (vs : List Nat) : ME := fun env μ => (mi env μ).bind fun it m => (compL it tg.put tt (mCons mk (mCons mv mNil)) (wipeE env vs) it.items m).bindN fun yss m' =>
  if yss.length ≤ lim ∧ (yss.all fun l => keyOk t (l.headD .non)) = true then k (kdsOf yss) m' else .no
theorem dictC_in {W : WX} {t : Bool} {k : List (D × D) → M D} (hk : DNew X.K X.mg t k) {mi : MI} {tg : Tgt} {tt : MB} {mk mv : ME} {vs : List Nat} (ht : ∀ i ∈ tg.slots, i ∈ vs) {Q : VK} (h : tM X.K X.mg W (mDictC t k mi tg tt mk mv vs) σ H Q) :
    tGc (fun _ => oDct t) (tMI X.K X.mg W mi) (gM X.K X.mg tg) (tMB X.K X.mg W0 tt) (fun D Nx σ H => tM X.K X.mg W0 mk σ H fun y H4 => tM X.K X.mg W0 mv σ H4 fun z H5 => ΨD t D Nx [y, z] H5) vs σ H Q := by
  obtain ⟨ρ, μ, env, w, re, p⟩ := h
  have p0 : PostI X.K X.mg (mi env μ) H ρ μ (fun J H1 => ∃ t' ρ1 μ1, Exm H ρ μ H1 ρ1 μ1 ∧ Wd X.K X.mg H1 ρ1 μ1 ∧ WalkM X.K X.mg J t' H1 ρ1 μ1 ∧ Post X.K X.mg ((compL t' tg.put tt (mCons mk (mCons mv mNil)) (wipeE env vs) t'.items μ1).bindN fun yss m' =>
      if yss.length ≤ lim ∧ (yss.all fun l => keyOk t (l.headD .non)) = true then k (kdsOf yss) m' else .no) H1 ρ1 μ1 Q (fun c od H' => W c od σ H')) (fun c od H' => W c od σ H') := by
    unfold mDictC at p
    cases hmi : mi env μ with
    | ok t' m => rw [hmi] at p; exact fun J H1 ρ1 e w1 wk => ⟨t', ρ1, m, e, w1, wk, Post.base e p⟩
    | ex c x m => rw [hmi] at p; exact p
    | no => rw [hmi] at p; exact p
  refine ⟨ρ, μ, env, w, re, PostI.imp p0 (fun J H1 ⟨its, ρ1, μ1, e1, w1, wk, p1⟩ => fun Dd hD => ?_) fun _ _ _ z => z⟩
  obtain ⟨ys0, m0, hr, p2⟩ := bindN_ne p1
  by_cases hso : ys0.length ≤ lim ∧ (ys0.all fun l => keyOk t (l.headD .non)) = true
  · rw [if_pos hso] at p2
    have two : ∀ (env : CL.Env) (μ μ' : Mem) (ds : List D), mCons mk (mCons mv mNil) env μ = .ok ds μ' → ∃ a b m1, ds = [a, b] ∧ mk env μ = .ok a m1 ∧ mv env m1 = .ok b μ' := fun env μ μ' ds h => by
      unfold mCons at h
      cases h1 : mk env μ with
      | ok a m1 =>
        rw [h1] at h
        have h : ((mCons mv mNil env m1).bind fun xs μ2 => Rs.ok (a :: xs) μ2) = .ok ds μ' := h
        unfold mCons at h
        cases h2 : mv env m1 with
        | ok b m2 =>
          rw [h2] at h
          cases h
          exact ⟨a, b, m1, rfl, rfl, h2⟩
        | ex c x m => rw [h2] at h; exact nomatch h
        | no => rw [h2] at h; exact nomatch h
      | ex c x m => rw [h1] at h; exact nomatch h
      | no => rw [h1] at h; exact nomatch h
    refine comp_coreG (Q := Q) (Φ := fun D Nx σ H => tM X.K X.mg W0 mk σ H fun y H4 => tM X.K X.mg W0 mv σ H4 fun z H5 => ΨD t D Nx [y, z] H5) (o0 := fun _ => oDct t) (Ψ := ΨD t) (Ct := fun _ => CtD X.K X.mg t) (OK := fun yss ds => yss.length < lim ∧ ∃ k v, ds = [k, v] ∧ keyOk t k = true) (fun _ => ctD_ok t) (fun _ _ _ _ => ?_) (fun p Nx σ H ρ μ env ds μ' w re hte z => ?_) ΨD_ok ht w1 (re.mono e1) wk hr (fun ys ds zs e => ?_) Dd hD fun H2 ρ2 o ex hh hid w2 hDd ct => ?_
    · cases t with
      | true => exact .inr ⟨rfl, [], [], rfl, .nil, rfl, Nat.le_refl _⟩
      | false => exact .inl ⟨rfl, [], [], rfl, .nil, rfl, Nat.le_refl _⟩
    · obtain ⟨a, b, m1, rfl, h1, h2⟩ := two _ _ _ _ hte
      refine ⟨ρ, μ, env, w, re, ?_⟩
      rw [h1]
      intro v H' ρ' e' w' r'
      refine ⟨ρ', m1, env, w', re.mono e', ?_⟩
      rw [h2]
      exact fun v2 H2 ρ2 e2 w2 r2 => z [v, v2] H2 ρ2 (e'.trans e2) w2 (.cons (r'.mono e2.x) (.one r2))
    · obtain ⟨a, b, rfl⟩ := compL_all (Pd := fun ds => ∃ a b, ds = [a, b]) (fun env μ ds m h => let ⟨a, b, _, e, _⟩ := two env μ m ds h; ⟨a, b, e⟩) _ _ _ _ _ hr ds (by rw [e]; simp)
      rw [e] at hso
      obtain ⟨l1, l2⟩ := hso
      rw [List.all_append, List.all_cons, Bool.and_eq_true, Bool.and_eq_true] at l2
      exact ⟨by simp at l1; omega, a, b, rfl, l2.2.1⟩
    · exact hk H1 ρ1 μ1 H2 ρ2 m0 Dd o ys0 Q _ (fun a ha => let ⟨o, e, _⟩ := (w1.hid a ha).1; ⟨o, e⟩) ex hh hid w2 hD hDd ct p2
  · rw [if_neg hso] at p2
    exact False.elim p2
theorem se_dictC {W : WX} {n : Nat} {t : Bool} {pos : Pos} {kx vx tg iter : Expr} {ifs : List Expr} {scope : Scope} {own : List (Str × Nat)} {mi : MI} {tm : Tgt} {tt : MB} {mk mv : ME} {k : List (D × D) → M D} (hr : RmG n X.A) (hk : DNew X.K X.mg t k)
    (hc : X.calm = true) (hN : X.N.Nodup) (hi : SI X W tg iter mi) (ok : BlkOk X.N X.env.scope scope own) (ht : ∀ i ∈ tm.slots, i ∈ own.map (·.2))
    (hg : ∀ (s : Shared) (H : Hp) (C : Addr) (cl : List (Str × Addr)) (fp : List Addr), SG (Bl X s H scope cl C fp) tg tm) (hts : ∀ (s : Shared) (H : Hp) (C : Addr) (cl : List (Str × Addr)) (fp : List Addr), STs (Bl X s H scope cl C fp) W0 ifs tt)
    (hke : ∀ (s : Shared) (H : Hp) (C : Addr) (cl : List (Str × Addr)) (fp : List Addr), SE (Bl X s H scope cl C fp) W0 kx mk) (hve : ∀ (s : Shared) (H : Hp) (C : Addr) (cl : List (Str × Addr)) (fp : List Addr), SE (Bl X s H scope cl C fp) W0 vx mv)
    (hs : ∀ x, foldedSetIterable iter X.env x = pure x := by intro _; rfl) : SE X W (.DictComp kx vx [⟨tg, iter, ifs, 0⟩] scope pos) (mDictC t k mi tm tt mk mv (own.map (·.2))) := by
  have hu : X.A.units + 1 < cLine := by have := hr.un; omega
  refine PE.imp (pe_ckind (g := gM X.K X.mg tm) (tt := tMB X.K X.mg W0 tt) (Φ := fun D Nx σ H => tM X.K X.mg W0 mk σ H fun y H4 => tM X.K X.mg W0 mv σ H4 fun z H5 => ΨD t D Nx [y, z] H5) (ck_dict t) (arm_eval_DictComp ..) hc hN hi ok hg hts (fun s H C cl fp pins s' σ' H' D Nx I q => bl_dict hu s H C cl fp (hke s H C cl fp) (hve s H C cl fp) pins s' σ' H' D Nx I q) hs) fun σ H Q h => ?_
  exact dictC_in hk ht h
end
end CL

namespace CL
open PySem L2 PySem.Spec PyProof.Rows
section
variable {K : PySem.W.Frag} {mg : Str → Option Value} {H : Hp} {ρ : Lc} {μ : Mem}
theorem live_tup {i : Nat} {xs : List D} {a : Addr} (l : Live ρ (μ.set i (some (.tup xs))) a) : Live ρ μ a := by
  rcases l with l | ⟨j, e, h1, h2, h3⟩
  · exact .inl l
  · by_cases hj : i = j
    · subst hj
      have hl : i < μ.length := by
        have := (List.getElem?_eq_some_iff.mp h2).1
        simpa using this
      rw [List.getElem?_set_self hl] at h2
      cases h2
      exact nomatch h3
    · rw [List.getElem?_set_ne hj] at h2
      exact .inr ⟨j, e, h1, h2, h3⟩
theorem dead_tup {i : Nat} {xs : List D} {a : Addr} (w : Wd K mg H ρ μ) (hc : ρ.cs[i]? = some a) : ¬ Live ρ (μ.set i (some (.tup xs))) a := by
  rintro (l | ⟨j, e, h1, h2, h3⟩)
  · exact (w.hid a l).2 (List.mem_of_getElem? hc)
  · have hi : i < ρ.cs.length := (List.getElem?_eq_some_iff.mp hc).1
    have ej : i = j := (List.getElem?_inj hi w.nd).mp (hc.trans h1.symm)
    subst ej
    rw [List.getElem?_set_self (by rw [← w.len]; exact hi)] at h2
    cases h2
    exact nomatch h3
theorem exm_tup {i : Nat} {xs : List D} : Exm H ρ μ H ρ (μ.set i (some (.tup xs))) := ⟨⟨fun _ _ e _ => .inl e, fun _ _ _ l => live_tup l, fun _ _ z => z⟩, rfl, fun _ _ => rfl⟩
theorem stand_ok {i : Nat} {a : Addr} {t : Bool} {kds : List (D × D)} (w : Wd K mg H ρ μ) (hc : ρ.cs[i]? = some a) (hm : μ[i]? = some (some (.dct t kds))) :
    Wd K mg H ρ (μ.set i (some (.tup [.dct t kds]))) ∧ Rm K mg H ρ (μ.set i (some (.tup [.dct t kds]))) (.ref a) (.dct t kds) := by
  have ex := (exm_tup (H := H) (ρ := ρ) (μ := μ) (i := i) (xs := [.dct t kds])).x
  have nl := dead_tup (xs := [.dct t kds]) w hc
  have r : Rm K mg H ρ (μ.set i (some (.tup [.dct t kds]))) (.ref a) (.dct t kds) := by
    have c := w.cell i _ a hm hc
    cases t with
    | false => obtain ⟨kvs, ds, h1, h2, h3⟩ := c; exact .dK (.inl h1) nl rfl (h2.mono ex) h3
    | true => obtain ⟨kvs, ds, h1, h2, h3⟩ := c; exact .dT (.inl h1) nl rfl (h2.mono ex) h3
  refine ⟨⟨by simp [w.len], w.nd, w.trk, w.hid, fun j e b h1 h2 => ?_⟩, r⟩
  by_cases hj : i = j
  · subst hj
    have hl : i < μ.length := (List.getElem?_eq_some_iff.mp hm).1
    rw [List.getElem?_set_self hl] at h1
    cases h1
    rw [hc] at h2
    cases h2
    exact ⟨w.trk a (List.mem_of_getElem? hc), nl, r⟩
  · rw [List.getElem?_set_ne hj] at h1
    exact (w.cell j e b h1 h2).mono ex fun _ => rfl
/-- the value; a dict stands still from now on -/
def dStand : D → M D := fun d μ => match d with
  | .cel i => (match μ[i]? with
    | some (some (.dct t kds)) => .ok (.dct t kds) (μ.set i (some (.tup [.dct t kds])))
    | some (some (.tup [x])) => .ok x μ
    | _ => .ok (.cel i) μ)
  | d => .ok d μ
def mStand (a : ME) : ME := fun env μ => (a env μ).bind dStand
theorem se_stand {X : Cx} {W : WX} {e : Expr} {ma : ME} (h : SE X W e ma) : SE X W e (mStand ma) := by
  refine PE.imp h fun σ H Q ⟨ρ, μ, env, w, re, p⟩ => ⟨ρ, μ, env, w, re, Post.imp (post_bind p) (fun v H1 ⟨d, ρ1, μ1, e1, w1, r1, p1⟩ => ?_) fun _ _ _ z => z⟩
  unfold dStand at p1
  cases r1 with
  | @cel a i hc =>
    dsimp only at p1
    split at p1
    · rename_i t kds hm
      obtain ⟨w2, r2⟩ := stand_ok w1 hc hm
      exact p1 _ H1 ρ1 exm_tup w2 r2
    · rename_i x hm
      obtain ⟨_, _, r2⟩ := w1.cell i _ a hm hc
      exact Post.ok w1 p1 r2
    · exact Post.ok w1 p1 (.cel hc)
  | non => exact Post.ok w1 p1 .non
  | bl b => exact Post.ok w1 p1 (.bl b)
  | int b => exact Post.ok w1 p1 (.int b)
  | str b => exact Post.ok w1 p1 (.str b)
  | ty b => exact Post.ok w1 p1 (.ty b)
  | lst a b => exact Post.ok w1 p1 (.lst a b)
  | tup a b => exact Post.ok w1 p1 (.tup a b)
  | dK a b c d e => exact Post.ok w1 p1 (.dK a b c d e)
  | dT a b c d e => exact Post.ok w1 p1 (.dT a b c d e)
  | ins a b c d e f => exact Post.ok w1 p1 (.ins a b c d e f)
  | exc a b c d e f g h => exact Post.ok w1 p1 (.exc a b c d e f g h)
end
end CL

namespace CL
open PySem L2 PySem.Spec PyProof.Rows
/-- a value worth d that may be in a set -/
def Elem (P : Program) (w : World) (h : Heap) (u : Value) (d : D) : Prop := (∃ k, keyIs k u = true ∧ d = kD k) ∨ ∃ b k, u = .ref b ∧ IsTK P w h k b ∧ d = .tup (k.map kD)
theorem IsTK.stay {P : Program} {w : World} {h h' : Heap} {k : List Key} {b : Addr} (x : IsTK P w h k b) (hk : ∀ c o, h.get? c = some o → h'.get? c = some o) : IsTK P w h' k b :=
  let ⟨o, its, n, e, r⟩ := x
  ⟨o, its, n, hk b o e, r⟩
theorem elem_el {P : Program} {w : World} {h : Heap} {u : Value} {d : D} {ys zs : List D} (e : Elem P w h u d) (ok : setOk (ys ++ d :: zs) = true) : El P w h (ddL ys) u d := by
  have sub : ∀ x ∈ ddL ys, x ∈ ys := fun x hx => (ddL_mem _ x).mp hx
  have len := ddL_len ys
  rcases setOk_el ok with ⟨k, rfl, h1, h2⟩ | ⟨k, rfl, h1, h2, _⟩
  · rcases e with ⟨j, e1, e2⟩ | ⟨b, j, _, _, e3⟩
    · rw [kD_inj e2]
      exact .key j u e1 (fun x hx => h1 x (sub x hx)) (by omega)
    · exact absurd e3 kD_tup
  · rcases e with ⟨j, e1, e2⟩ | ⟨b, j, rfl, e2, e3⟩
    · exact absurd e2.symm kD_tup
    · rw [kDs_inj (D.tup.inj e3)]
      exact .tup b j e2 (fun x hx => h1 x (sub x hx)) (by omega)
section
variable {P : Program} {w : World} {A : Around} {E : Value → Shared → Prop} {s : Shared}
/-- one after another -/
theorem set_feed {I : Addr} {fp wr : List Addr} {G : Array GenState → Array GenState → Prop} {n : Nat} {Pv : Nat → Value → Prop} {St : Nat → Shared → Prop} {R : Result → Shared → Prop} (W : WalksS P w A.in1 I fp wr G n Pv St) (S : Addr) (nS : S ∉ fp)
    (ds : List D) (hn : n = ds.length) (ok : setOk ds = true) (h0 : Heap) (nS0 : h0.get? S = none) (nw0 : ∀ b ∈ wr, h0.get? b = none) (hu : A.units + 1 < cLine) (hv : ∀ i v, Pv i v → ∃ d, ds[i]? = some d ∧ Elem P w h0 v d) (m : Nat) :
    ∀ (i : Nat) (s : Shared), i + m = n → St i s → (∀ b o, h0.get? b = some o → s.heap.get? b = some o) → (∃ L, SU P w s.heap S (ddL (ds.take i)) L ∧ Tups P w h0 L) →
      (∀ s' L, Moved (S :: wr) G s s' → SU P w s'.heap S (ddL ds) L → Tups P w h0 L → (∀ b o, h0.get? b = some o → s'.heap.get? b = some o) → R (.ok (.ret .none)) s') →
      codeAny (model P w) A (.builtin "set.update.loop" ⟨[.ref S, .ref I], []⟩) R s := by
  have nSw : S ∉ wr := fun z => nS (W.sub _ z)
  have more : ∀ b ∈ wr, b ∈ S :: wr := fun _ hb => .tail _ hb
  have kept : ∀ {s s' : Shared}, Moved wr G s s' → (∀ b o, h0.get? b = some o → s.heap.get? b = some o) → ∀ b o, h0.get? b = some o → s'.heap.get? b = some o := fun hm hk b o e =>
    hm.heap b o (fun z => by rw [nw0 b z] at e; exact nomatch e) (hk b o e)
  induction m with
  | zero =>
    intro i s hi st hk ⟨L, R0, tp⟩ fin
    have hi : i = n := hi
    subst hi
    refine codeAny_builtin F.entry_set_update_loop ?_
    rw [Around.under_plainId F.plain_set_update_loop _]
    refine wpAny_bind (m := pyNext (.ref I)) (W.done s _ _ st fun s' mv => ?_)
    rw [hn, List.take_length] at R0
    exact wpAny_pure (fin s' L (mv.mono more) (R0.at fun o z => mv.heap S o nSw z) tp (kept mv hk))
  | succ m ih =>
    intro i s hi st hk ⟨L, R0, tp⟩ fin
    have lt : i < n := by omega
    refine codeAny_builtin F.entry_set_update_loop ?_
    rw [Around.under_plainId F.plain_set_update_loop _]
    refine wpAny_bind (m := pyNext (.ref I)) (W.item i s _ _ lt st fun v s' hp st' mv => ?_)
    obtain ⟨d, hd, el⟩ := hv i v hp
    have hk' := kept mv hk
    have split : ds = ds.take i ++ d :: ds.drop (i + 1) := by
      have := List.take_append_drop i ds
      rw [List.drop_eq_getElem_cons (List.getElem?_eq_some_iff.mp hd).1, (List.getElem?_eq_some_iff.mp hd).2] at this
      exact this.symm
    have el' : Elem P w s'.heap v d := by
      rcases el with z | ⟨b, k, e1, e2, e3⟩
      · exact .inl z
      · exact .inr ⟨b, k, e1, e2.stay hk', e3⟩
    refine wpAny_bind (m := holding [v] (setAdd S v)) (wpAny_holding (addU (R0.at fun o z => mv.heap S o nSw z) (fun p hp => (tp p hp).stay hk') (elem_el el' (by rw [← split]; exact ok)) hu fun b h' L' tk tks sb R1 sub => ?_))
    have keep2 : ∀ b o, h0.get? b = some o → h'.get? b = some o := fun b o e => (sb.2 b fun z => by rw [z, nS0] at e; exact nomatch e).trans (hk' b o e)
    have tp' : Tups P w h0 L' := fun p hp => by
      rcases sub p hp with z | ⟨z1, z2⟩
      · exact tp p z
      · rcases el with ⟨k, e1, e2⟩ | ⟨b, k, e1, e2, e3⟩
        · rw [e2] at z2
          exact absurd z2.symm kD_tup
        · rw [← z1] at e1
          injection e1 with e1
          rw [e3] at z2
          rw [e1, show p.2 = k from kDs_inj (D.tup.inj z2)]
          exact e2
    have next : ddL (ds.take (i + 1)) = insD (ddL (ds.take i)) d := by
      rw [List.take_succ, hd]
      exact ddL_snoc _ _
    refine wpAny_pure ⟨plainId_quiet F.plain_set_update_loop _, ih (i + 1) _ (by omega) (W.frame _ s' _ _ st' tks fun b hb o e => ?_) keep2 ⟨L', by rw [next]; exact R1, tp'⟩ fun s2 L2 mv2 R2 tp2 hk2 => ?_⟩
    · exact (sb.2 b fun z => nS (by rw [← z]; exact hb)).trans e
    · exact fin s2 L2 (Moved.trans W.gtrans ((mv.mono more).then_heap tks fun b o hb e => (sb.2 b fun z => hb (by rw [z]; exact .head _)).trans e) mv2) R2 tp2 hk2
set_option maxHeartbeats 3200000 in
/-- set(xs) -/
theorem call_setU {l : Addr} {us : Array Value} (ds : List D) {Q : Value → Shared → Prop} (hh : A.handled = none) (hl : s.heap.IsList l us) (hn : us.size = ds.length) (ok : setOk ds = true) (hv : ∀ (i : Nat) (v : Value), us[i]? = some v → ∃ d, ds[i]? = some d ∧ Elem P w s.heap v d) (hu : A.units + 8 < cLine)
    (hQ : ∀ (h' : Heap) (tk : Nat) L, SU P w h' s.heap.objs.size (ddL ds) L → Tups P w s.heap L → (∀ b o, s.heap.get? b = some o → h'.get? b = some o) → Q (.ref s.heap.objs.size) { s with heap := h', toks := tk }) :
    wpAny (model P w) A (call (.type "set") [.ref l]) Q E s := by
  obtain ⟨c, tl, mro⟩ := F.called_set.mro
  have made := F.called_set.made
  have subs := F.called_set.sub
  have nty := F.called_set.notType
  have can := F.called_set.canCreate
  have tcl := F.typeCall_set_1 (.ref l)
  obtain ⟨so, hso⟩ : ∃ so : Obj, { cls := .type "set", dict := none, data := .set #[] 0 (.fresh 0 0 (!w.params.followText "set-order")) } = so := ⟨_, rfl⟩
  refine wpAny_call (codeAny_of_tree ?_)
  show wpAny _ _ (callAny (.type "set") _) _ _ _
  refine wpAny_pure ⟨Code.quiet_builtin _ (by decide +kernel), codeAny_builtin F.entry_type_call ?_⟩
  rw [Around.under_plain (weight_type_call_type "set" [.ref l] []) rfl]
  repeat (any_goals (first | assumption | wp_step))
  refine codeAny_mono (code_set_led1 (.ref l) (E := E) (Q₁ := fun v s1 => v = .ref s.heap.objs.size ∧ s1 = { s with heap := s.heap.push so }) ⟨rfl, by rw [hso]⟩) fun r s1 hr => ?_
  cases r with
  | error e => exact hr
  | ok fl =>
    cases fl with
    | ret v =>
      obtain ⟨rfl, rfl⟩ := hr
      have gS : (s.heap.push so).get? s.heap.objs.size = some so := Heap.get?_push_size _ (by rw [← hso]; rfl)
      have tS : Shared.TypeIs { s with heap := s.heap.push so } (.ref s.heap.objs.size) "set" := ⟨so, gS, by rw [← hso]⟩
      have lk := F.called_set.init.lookup
      have bd := F.called_set.init.bind (.ref s.heap.objs.size)
      repeat (any_goals (first | assumption | wp_step))
      refine codeAny_mono (codeAny_call_builtin (R := wants (fun r s2 => r = .none ∧ ∃ h' tk L, s2 = { s with heap := h', toks := tk } ∧ SU P w h' s.heap.objs.size (ddL ds) L ∧ Tups P w s.heap L ∧ (∀ b o, s.heap.get? b = some o → h'.get? b = some o)) E) F.called_set.init.plain F.entry_set_init (check_set_init_1 tS ?_)) fun r2 s2 hr2 => ?_
      · have isl : (s.heap.push so).IsList l us := hl.push so
        obtain ⟨ol, gl, cl, nl, dl⟩ := isl
        have isl : (s.heap.push so).IsList l us := ⟨ol, gl, cl, nl, dl⟩
        obtain ⟨ocls, odict, odata, oslots⟩ := ol
        simp only at cl dl
        subst cl dl
        subst hso
        have q1 := F.sub_list_set
        have q2 := F.sub_list_frozenset
        have q3 : (Value.type "list" == Value.type "dict") = false := by decide
        unfold Builtin.«set.__init__» noKeywords Builtin.Frozenset.updateFrom
        generalize hPI : pyIter = PI
        wp_walk
        subst hPI
        refine wpAny_pyIter_list isl ?_
        refine wpAny_bind (wpAny_runValue ?_)
        have lS : l < s.heap.objs.size := by
          obtain ⟨o, g, _⟩ := hl
          exact Heap.lt_size g
        have sz1 : (s.heap.push { cls := .type "set", dict := none, data := .set #[] 0 (.fresh 0 0 (!w.params.followText "set-order")) }).objs.size = s.heap.objs.size + 1 := Heap.size_push ..
        have nI : l ≠ (s.heap.push { cls := .type "set", dict := none, data := .set #[] 0 (.fresh 0 0 (!w.params.followText "set-order")) }).objs.size := by
          rw [sz1]
          exact Nat.ne_of_lt (Nat.lt_succ_of_lt lS)
        have none_of : ∀ b, s.heap.objs.size ≤ b → s.heap.get? b = none := fun b hb => by
          cases z : s.heap.get? b with
          | none => rfl
          | some o => exact absurd (Heap.lt_size z) (Nat.not_lt.mpr hb)
        refine set_feed ((Walks.list (show A.in1.in1.in1.handled = none by simp [hh]) _ l nI us).toS) s.heap.objs.size ?_ ds hn ok s.heap (none_of _ (Nat.le_refl _)) (fun b hb => none_of b ?_) (show A.units + 1 + 1 + 1 < cLine by omega) hv us.size 0 _ (by omega) ?_ ?_ ?_ ?_
        · rw [sz1]
          simp only [List.mem_cons, List.not_mem_nil, or_false, not_or]
          exact ⟨Nat.ne_of_lt (Nat.lt_succ_self _), Nat.ne_of_gt lS⟩
        · rw [List.mem_singleton.mp hb, sz1]
          exact Nat.le_succ _
        · exact ⟨⟨_, Heap.get?_push_size _ rfl, rfl, rfl⟩, isl.push _⟩
        · exact fun b o e => Heap.get?_push_of_some _ (Heap.get?_push_of_some _ e)
        · refine ⟨[], .tups (ts_fresh ?_) (.refl _), fun _ z => nomatch z⟩
          exact Heap.get?_push_of_some _ gS
        · intro s' L mv RS tp hk
          obtain ⟨h', g2, d', tk', os'⟩ := s'
          cases (show g2 = s.gens from mv.gens)
          cases (show d' = s.drawn from mv.drawn)
          cases (show os' = s.os from mv.os)
          refine wpAny_pure ?_
          show wpAny _ _ (ret Value.none) _ _ _
          exact wpAny_pure ⟨rfl, h', tk', L, rfl, RS, tp, hk⟩
      · cases r2 with
        | error e => exact hr2
        | ok fl2 =>
          cases fl2 with
          | ret r =>
            obtain ⟨rfl, h', tk, L, rfl, RS, tp, hk⟩ := hr2
            repeat (any_goals (first | assumption | wp_step))
            exact hQ _ _ _ RS tp hk
          | _ => exact hr2.elim
    | _ => exact hr.elim
end
section
variable {X : Cx} {pins : List (Addr × Obj)} {σ : L2.St} {H : Hp} {s : Shared}
def ElemV (K : PySem.W.Frag) (H : Hp) (v : V) (d : D) : Prop := (∃ k, v = kV k ∧ d = kD k) ∨ ∃ (b : Addr) (k : List Key), v = .ref b ∧ SqT K H b (k.map kV) ∧ d = .tup (k.map kD)
def rSetU (P : Program) (w : World) (K : PySem.W.Frag) : List V → Hp → VK → Prop := fun xs H Q => ∃ l vs ds, xs = [V.ref l] ∧ Rd H l (.lst vs) ∧ vs.length = ds.length ∧ (∀ (i : Nat) v, vs[i]? = some v → ∃ d, ds[i]? = some d ∧ ElemV K H v d) ∧ setOk ds = true ∧
  ∀ p L, H p = none → Q (.ref p) (upd H p (SetH P w p (ddL ds) L))
theorem vals_get : ∀ {vs : List V} {us : List Value}, Vals vs us → ∀ {i : Nat} {u : Value}, us[i]? = some u → ∃ v, vs[i]? = some v ∧ RelV v u
  | _, _, .nil, i, u, h => by simp at h
  | _, _, .cons r t, 0, u, h => by
    cases (show _ = u from Option.some.inj (by simpa using h))
    exact ⟨_, rfl, r⟩
  | _, _, .cons r t, i + 1, u, h => by
    obtain ⟨v, h1, h2⟩ := vals_get t (i := i) (u := u) (by simpa using h)
    exact ⟨v, by simpa using h1, h2⟩
theorem cr_setU (hc : X.calm = true) (hu : X.A.units + 8 < cLine) : CallR X (.type "set") (rSetU X.prog X.w X.K) := by
  intro pins s σ H xs us Q I r h
  obtain ⟨l, vs, ds, rfl, hl, hn, hv, ok, q⟩ := h
  rw [Vals.ref1 r]
  obtain ⟨_, its, n, rv, n1, gl⟩ := Inv.lstR I hl
  have fresh : H s.heap.objs.size = none := I.hok.fresh (Nat.le_refl _)
  refine call_setU (P := X.prog) (w := X.w) (us := its.toArray) ds (I.ok.hd hc) ⟨_, gl, rfl, n, rfl⟩ (by simp only [List.size_toArray]; omega) ok (fun i v e => ?_) hu fun h' tk L R _ k => ?_
  · have e : its[i]? = some v := by simpa using e
    obtain ⟨y, h1, ry⟩ := vals_get rv e
    obtain ⟨d, h2, el⟩ := hv i y h1
    refine ⟨d, h2, ?_⟩
    rcases el with ⟨k, rfl, rfl⟩ | ⟨b, k, rfl, hb, rfl⟩
    · exact .inl ⟨k, keyIs_of ry, rfl⟩
    · cases (show v = .ref b from ry)
      exact .inr ⟨b, k, rfl, tk_of I hb, rfl⟩
  · exact ⟨.ref s.heap.objs.size, _, I.laid (t' := tk) k (Nat.le_refl _) (setH_new R), rfl, q _ L fresh⟩
/-- x(set(e)) -/
def mSetL (k : List D → M D) (a : ME) : ME := fun env μ => (a env μ).bind fun d μ1 => match lstOf μ1 d with
  | some ys => if setOk ys = true then k (ddL ys) μ1 else .no
  | none => .no
theorem elemV_of {K : PySem.W.Frag} {mg : Str → Option Value} {Lv : Addr → Prop} {cs : List Addr} {v : V} {d : D} (r : R K mg H Lv cs v d) (h : isKD d = true ∨ isTD d = true) : ElemV K H v d := by
  rcases h with h | h
  · obtain ⟨k, rfl⟩ := isKD_ex h
    exact .inl ⟨k, r.key, rfl⟩
  · obtain ⟨k, rfl, _⟩ := isTD_ex h
    cases v with
    | ref b => exact .inr ⟨b, k, rfl, sqt_of r, rfl⟩
    | _ => exact nomatch r
theorem setOk_all {ys : List D} (h : setOk ys = true) : ∀ d ∈ ys, isKD d = true ∨ isTD d = true := by
  unfold setOk at h
  simp only [Bool.or_eq_true, Bool.and_eq_true] at h
  rcases h with h | h
  · exact fun d hd => .inl (List.all_eq_true.mp h.1 d hd)
  · exact fun d hd => .inr (List.all_eq_true.mp h.1 d hd)
theorem setOk_len {ys : List D} (h : setOk ys = true) : (ddL ys).length < 4097 := by
  have := ddL_len ys
  unfold setOk tupMax at h
  simp only [Bool.or_eq_true, Bool.and_eq_true, decide_eq_true_eq] at h
  omega
theorem se_setL {W : WX} {n : Nat} {x : Str} {p p2 pos pos2 : Pos} {id : String} {e : Expr} {ma : ME} {r : List V → Hp → VK → Prop} {k : List D → M D} (hr : RmG n X.A) (hcr : CallR X (.builtin id) r) (hk : SetUse X r k) (hm : X.mg x = none) (hv : bootBuiltins x = some (.builtin id)) (hc : X.calm = true) (hms : X.mg "set" = none)
    (he : SE X W e ma) (hx : Gl X x := by rfl) (hgs : Gl X "set" := by rfl) (hn : x ≠ "__name__" := by decide) (hdb : (x == ("__debug__" : Str)) = false := by decide)
    (hs1 : starEach [e] X.env = (false, eval e X.env) :: starEach [] X.env := by rfl)
    (hs2 : starEach [.Call (.Name "set" p2) [e] [] pos2] X.env = (false, eval (.Call (.Name "set" p2) [e] [] pos2) X.env) :: starEach [] X.env := by rfl) (hpl : ∀ pos, (backTo pos (starEach [] X.env)).any (·.1) = false := by intro _; rfl) :
    SE X W (.Call (.Name x p) [.Call (.Name "set" p2) [e] [] pos2] [] pos) (mSetL k ma) := by
  have hu : X.A.units + 8 < cLine := by have := hr.un; omega
  refine PE.imp (pe_callB hcr hx hm hv (pa_cons (pe_callTy (cr_setU hc hu) hgs hms (by rfl) (pa_cons he pa_nil hs1) (by decide) (by decide) hs1 (hpl _)) pa_nil hs2) hn hdb hs2 (hpl _)) fun σ H Q ⟨ρ, μ, env, w, re, q⟩ => ?_
  refine ⟨ρ, μ, env, w, re, Post.imp (post_bind q) (fun v H1 ⟨d, ρ1, μ1, e1, w1, r1, p1⟩ => ?_) fun _ _ _ z => z⟩
  cases hl : lstOf μ1 d with
  | none => rw [hl] at p1; exact False.elim p1
  | some ys =>
    rw [hl] at p1
    dsimp only at p1
    by_cases ok : setOk ys = true
    · rw [if_pos ok] at p1
      obtain ⟨a, vs, rfl, hrd, rl⟩ := lstOf_ok w1 r1 hl
      refine ⟨a, vs, ys, rfl, hrd, rl.length, fun i v hv => ?_, ok, fun p0 L hp => ?_⟩
      · obtain ⟨d', h1, h2⟩ := rl.getV hv
        exact ⟨d', h1, elemV_of h2 (setOk_all ok d' (List.mem_of_getElem? h1))⟩
      · exact hk _ ρ1 μ1 p0 _ L Q _ upd_same (ddL_nodup _) (setOk_len ok) (w1.new hp) (Post.base (Exm.new w1 hp) p1)
    · rw [if_neg ok] at p1
      exact False.elim p1
end
end CL

namespace CL
open PySem L2 PySem.Spec PyProof.Rows
section
variable {P : Program} {w : World} {A : Around} {E : Value → Shared → Prop} {s : Shared} {a : Addr} {ks : List Key}
set_option maxHeartbeats 4000000 in
/-- sorted(s), s a set of keys that sort by ltv -/
theorem sorted_KS (R : KS P w s.heap a ks) (hh : A.handled = none) {ltv : Value → Value → Bool} (O : SrtO.Swo ltv) {Q : Value → Shared → Prop}
    (hS : ∀ vs : List Value, 2 ≤ vs.length → (∀ v ∈ vs, ∃ k ∈ ks, keyIs k v = true) → ∀ (s1 : Shared) (b : Addr), SrtO.SortableO P w A.in1.in1 s1 b vs ltv)
    (hQ : ∀ (s' : Shared) (p : Addr) (vs out : List Value) (c : Nat), (∀ (b : Addr) (o : Obj), s.heap.get? b = some o → s'.heap.get? b = some o) → s'.gens = s.gens → s'.os = s.os → s.heap.objs.size ≤ p → s'.heap.get? p = some (seqObj "list" out.toArray c) →
      (∀ k, k ∈ ks ↔ ∃ v ∈ vs, keyIs k v = true) → (∀ v ∈ vs, ∃ k, keyIs k v = true) → vs.length = ks.length → SrtO.Srtd ltv out → SrtO.Stb ltv out vs → Q (.ref p) s') :
    wpAny (model P w) A (call (.builtin "sorted") [.ref a]) Q E s := by
  obtain ⟨es, ep, t, R⟩ := R
  obtain ⟨o, ho, hex, hd⟩ := R.ob
  have sz := R.sz
  have few := R.few
  refine Calls.call_function_entry kind_sorted plain_sorted entry_sorted (args_sorted1 _) ?_
  unfold Builtin.«sorted»
  refine wpAny_bind (m := checkCount "sorted" 1 1 _) (wpAny_pure ?_)
  refine wpAny_bind (collect_set (A := A.in1) hh ⟨o, ho, hex.1, hd⟩ R.fits (show es.size < 4096 by omega) R.ris R.led fun s1 vs k1 hz g1 o1 pm => ?_)
  have len : vs.length = ks.length := by
    rw [pm.length_eq, List.length_map, Array.length_toList]
    exact sz
  have mem : ∀ k, k ∈ ks ↔ ∃ v ∈ vs, keyIs k v = true := fun k => by
    rw [R.mem k]
    constructor
    · rintro ⟨e, he, q⟩
      exact ⟨e.2, pm.mem_iff.mpr (List.mem_map.mpr ⟨e, he, rfl⟩), q⟩
    · rintro ⟨v, hv, q⟩
      obtain ⟨e, he, rfl⟩ := List.mem_map.mp (pm.mem_iff.mp hv)
      exact ⟨e, he, q⟩
  have keys : ∀ v ∈ vs, ∃ k ∈ ks, keyIs k v = true := fun v hv => by
    obtain ⟨e, he, rfl⟩ := List.mem_map.mp (pm.mem_iff.mp hv)
    obtain ⟨⟨k, q, _⟩, _⟩ := R.el e he
    exact ⟨k, (R.mem k).mpr ⟨e, he, q⟩, q⟩
  have line : vs.length ≤ sizeLine := by rw [sizeLine_eq]; omega
  refine wpAny_bind (wpAny_newList ?_ line)
  have at1 : (s1.heap.push (seqObj "list" vs.toArray 0)).get? s1.heap.objs.size = some (seqObj "list" vs.toArray 0) := Heap.get?_push_size _ rfl
  refine wpAny_bind (wpAny_holding (wpAny_call_entry slot_list_sort ⟨_, at1, rfl⟩ entry_list_sort (SrtO.list_sort_ord O at1 line (fun h2 => hS vs h2 keys _ _) fun out hs hb => ⟨_, rfl, ?_⟩) (args_list_sort _)))
  obtain ⟨c, hc⟩ := sortedHeap_at (vs := vs) (out := out.toArray) at1
  refine wpAny_pure ⟨_, rfl, hQ _ s1.heap.objs.size vs out c (fun b u e => ?_) g1 o1 hz hc mem (fun v hv => let ⟨k, _, q⟩ := keys v hv; ⟨k, q⟩) len hs hb⟩
  have q := k1 b u e
  have lt := Heap.lt_size q
  refine (sortedHeap_old (Nat.ne_of_lt lt) ?_).trans (Heap.get?_push_of_some _ q)
  rw [size_push']
  exact Nat.lt_succ_of_lt lt
end
theorem perm_of_sub {α : Type} [DecidableEq α] : ∀ (ns l : List α), ns.Nodup → (∀ x ∈ ns, x ∈ l) → l.length ≤ ns.length → l.Perm ns
  | [], l, _, _, h => by
    rw [List.eq_nil_of_length_eq_zero (Nat.le_zero.mp h)]
  | x :: ns, l, nd, sub, h => by
    obtain ⟨n1, n2⟩ := List.nodup_cons.mp nd
    have hx := sub x List.mem_cons_self
    have len := List.length_erase_of_mem hx
    rw [List.length_cons] at h
    refine (List.perm_cons_erase hx).trans ((perm_of_sub ns (l.erase x) n2 (fun y hy => ?_) (by omega)).cons x)
    exact (List.mem_erase_of_ne fun e => n1 (by rw [← e]; exact hy)).mpr (sub y (.tail _ hy))
section
variable {X : Cx} {pins : List (Addr × Obj)} {σ : L2.St} {H : Hp} {s : Shared}
/-- all ints -/
def asKI : List Key → Option (List Int)
  | [] => some []
  | .inl i :: ks => (asKI ks).map (i :: ·)
  | .inr _ :: _ => none
/-- sorted of a set of ints -/
def rSortU (P : Program) (w : World) : List V → Hp → VK → Prop := fun xs H Q => ∃ (a : Addr) (ns : List Int) (L : TL), xs = [V.ref a] ∧ H a = some (SetH P w a (ns.map D.int) L) ∧ ns.Nodup ∧ ns.length < 4096 ∧ ∀ (ms : List Int) p, ms.Perm ns → ms.Pairwise (· ≤ ·) → H p = none → Q (.ref p) (upd H p (.lst (ms.map V.int)))
theorem su_keys {P : Program} {w : World} {h : Heap} {a : Addr} {ks : List Key} {L : TL} (R : SU P w h a (ks.map kD) L) : KS P w h a ks := by
  cases R with
  | tups T pm =>
    have z : L = [] := by
      cases L with
      | nil => rfl
      | cons p L =>
        obtain ⟨k, _, e⟩ := List.mem_map.mp (pm.mem_iff.mpr (show tupOf p ∈ (p :: L).map tupOf from List.mem_cons_self))
        exact absurd e kD_tup
    subst z
    have z : ks = [] := by
      have := pm.eq_nil
      simpa using this
    subst z
    exact ts_keys T
  | keys js h1 h2 h3 h4 =>
    rw [kDs_inj h1]
    exact h4
theorem ints_kD (ns : List Int) : ns.map D.int = (ns.map (Sum.inl : Int → Key)).map kD := by
  rw [List.map_map]
  rfl
theorem keyIs_int_inv {i : Int} {v : Value} (h : keyIs (.inl i) v = true) : ∃ t, v = .int i t := by
  rcases keyIs_shape h with ⟨j, t, e, rfl⟩ | ⟨x, t, e, rfl⟩
  · cases e
    exact ⟨t, rfl⟩
  · exact nomatch e
theorem cr_sortU (hc : X.calm = true) : CallR X (.builtin "sorted") (rSortU X.prog X.w) := by
  intro pins s σ H xs us Q I r h
  obtain ⟨a, ns, L, rfl, ha, nd, few, q⟩ := h
  rw [Vals.ref1 r]
  have R : KS X.prog X.w s.heap a (ns.map Sum.inl) := su_keys (L := L) (ints_kD ns ▸ setH_get I ha)
  have allI : ∀ (vs : List Value), (∀ v ∈ vs, ∃ k ∈ (ns.map Sum.inl : List Key), keyIs k v = true) → ∀ v ∈ vs, ∃ i t, v = Value.int i t := fun vs h v hv => by
    obtain ⟨k, hk, e⟩ := h v hv
    obtain ⟨i, _, rfl⟩ := List.mem_map.mp hk
    obtain ⟨t, rfl⟩ := keyIs_int_inv e
    exact ⟨i, t, rfl⟩
  refine sorted_KS R (I.ok.hd hc) SrtO.swo_int (fun vs h2 hv s1 b => SrtO.ints_sortable (SrtO.ints_iv (allI vs hv)) h2) fun s' p vs out c k g o hp hg mem hv len hs hb => ?_
  have hI : IntsAre vs (vs.map SrtO.iv) := SrtO.ints_iv fun v hv' => by
    obtain ⟨j, e⟩ := hv v hv'
    obtain ⟨i, _, rfl⟩ := List.mem_map.mp ((mem j).mpr ⟨v, hv', e⟩)
    obtain ⟨t, rfl⟩ := keyIs_int_inv e
    exact ⟨i, t, rfl⟩
  obtain ⟨k1, k2, k3⟩ := SrtO.ints_out hI hs hb
  have pn : (vs.map SrtO.iv).Perm ns := by
    have sub : ∀ i ∈ ns, i ∈ vs.map SrtO.iv := fun i hi => by
      obtain ⟨v, hv', e⟩ := (mem (.inl i)).mp (List.mem_map.mpr ⟨i, hi, rfl⟩)
      obtain ⟨t, rfl⟩ := keyIs_int_inv e
      exact List.mem_map.mpr ⟨_, hv', rfl⟩
    have ln : (vs.map SrtO.iv).length = ns.length := by simpa using len
    exact perm_of_sub _ _ nd sub (by omega)
  have hn : H p = none := I.hok.fresh hp
  have hlen : ((out.map SrtO.iv).map V.int).length ≤ sizeLine := by
    rw [List.length_map, (k2.trans pn).length_eq, sizeLine_eq]
    omega
  have J : Inv X pins σ (upd H p (.lst ((out.map SrtO.iv).map V.int))) { s with heap := s'.heap, gens := s'.gens, drawn := s'.drawn, toks := s'.toks } :=
    I.call (ch := []) (Un.laid k hp hn) (I.hok.laid k hp ⟨hlen, out, c, vals_of_ints k1, hg⟩) (by rw [g]; exact I.bare) (fun _ z => nomatch z)
  have e : s' = { s with heap := s'.heap, gens := s'.gens, drawn := s'.drawn, toks := s'.toks } := by
    cases s'
    cases s
    cases o
    rfl
  rw [e]
  exact ⟨.ref p, _, J, rfl, q _ p (k2.trans pn) k3 hn⟩
def kSortU (k : List D → M D) : List D → M D := fun ds μ => match asInts ds with
  | some ns => if ns.length < 4096 then k ((sortI ns).map D.int) μ else .no
  | none => .no
theorem use_sortI {k : List D → M D} (hk : NewK k) : SetUse X (rSortU X.prog X.w) (kSortU k) := fun H ρ μ a ds L Q E ha nd hl w p => by
  unfold kSortU at p
  cases h : asInts ds with
  | none => rw [h] at p; exact False.elim p
  | some ns =>
    rw [h] at p
    dsimp only at p
    by_cases few : ns.length < 4096
    · rw [if_pos few] at p
      have e := asInts_eq h
      subst e
      refine ⟨a, ns, L, rfl, ha, List.Pairwise.of_map D.int (fun x y h e => h (congrArg D.int e)) nd, few, fun ms q hp hw hq => ?_⟩
      have e := pw_uniq (hp.trans (sortI_perm ns).symm) hw (sortI_pw ns)
      subst e
      exact hk _ _ _ _ _ _ _ _ _ w (RL.ofInts _) p q hq
    · rw [if_neg few] at p
      exact False.elim p
end
end CL

namespace CL
open PySem L2 PySem.Spec PyProof.Rows
def ltS (a b : Str) : Bool := decide (a.cps.toList < b.cps.toList)
def minS (a b : Str) : Str := if ltS b a = true then b else a
def maxS (a b : Str) : Str := if ltS a b = true then b else a
section
variable {prog : Program} {w : World} {A : Around} {E : Value → Shared → Prop} {s : Shared}
def strAt (xs : List (Str × Tok)) (i : Nat) : Str := (xs[i]?.map (·.1)).getD Str.empty
def strVs (xs : List (Str × Tok)) : Array Value := (xs.map fun p => Value.str p.1 p.2).toArray
theorem strVs_at {xs : List (Str × Tok)} {i : Nat} {v : Value} (h : (strVs xs)[i]? = some v) : ∃ t, v = .str (strAt xs i) t := by
  unfold strVs at h
  rw [List.getElem?_toArray, List.getElem?_map, Option.map_eq_some_iff] at h
  obtain ⟨p, hp, rfl⟩ := h
  exact ⟨p.2, by simp [strAt, hp]⟩
theorem cmpS_lt {P : Nat → Value → Prop} (val : Nat → Str) (hv : ∀ i v, P i v → ∃ t, v = .str (val i) t) : CmpOf prog w A .Lt P (fun i j => ltS (val i) (val j)) := fun i j vi vj s Q E hi hj h => by
  obtain ⟨t, rfl⟩ := hv i vi hi
  obtain ⟨u, rfl⟩ := hv j vj hj
  exact richCompare_gives (op := .Lt) (typeIs_str s _ t) (typeIs_str s _ u) F.slot_str_lt F.entry_str_lt (F.args_str_lt_2 _ _) (gives_str_lt _ _ t u) (fun x => nomatch x) h
theorem cmpS_gt {P : Nat → Value → Prop} (val : Nat → Str) (hv : ∀ i v, P i v → ∃ t, v = .str (val i) t) : CmpOf prog w A .Gt P (fun i j => ltS (val j) (val i)) := fun i j vi vj s Q E hi hj h => by
  obtain ⟨t, rfl⟩ := hv i vi hi
  obtain ⟨u, rfl⟩ := hv j vj hj
  exact richCompare_gives (op := .Gt) (typeIs_str s _ t) (typeIs_str s _ u) F.slot_str_gt F.entry_str_gt (F.args_str_gt_2 _ _) (gives_str_gt _ _ t u) (fun x => nomatch x) h
/-- a tuple of texts walked, as min and max ask it -/
theorem walkS {l : Addr} {xs : List (Str × Tok)} (hh : A.handled = none) (hl : s.heap.IsTuple l (strVs xs)) (hn : 0 < xs.length) {op : CmpOp} {bt : Nat → Nat → Bool} (hc : CmpOf prog w A op (fun i v => (strVs xs)[i]? = some v) bt) {Q : Value → Shared → Prop}
    (h : ∀ v h' tk, (strVs xs)[argBest bt (xs.length - 1)]? = some v → (∀ c o, s.heap.get? c = some o → h'.get? c = some o) → Q v { s with heap := h', toks := tk }) :
    wpAny (model prog w) A (pyIter (.ref l)) (fun it s2 => ∃ I fp wr n P St bt, it = .ref I ∧ Walks prog w A I fp wr n P St ∧ St 0 s2.heap ∧ (∀ b ∈ fp, b < s2.heap.objs.size) ∧ 0 < n ∧ CmpOf prog w A op P bt ∧
      ∀ v h' tk, P (argBest bt (n - 1)) v → (∀ b o, b ∉ wr → s2.heap.get? b = some o → h'.get? b = some o) → Q v { s2 with heap := h', toks := tk }) E s := by
  have lt : l < s.heap.objs.size := let ⟨_, e, _⟩ := hl; Heap.lt_size e
  have sz : (strVs xs).size = xs.length := by simp [strVs]
  refine wpAny_pyIter_tuple hl ?_
  refine ⟨_, [_, l], [_], _, _, _, bt, rfl, Walks.tuple (A := A) hh _ l (Nat.ne_of_lt lt) (strVs xs), ⟨⟨_, Heap.get?_push_size _ rfl, rfl, rfl⟩, hl.push _⟩, fun c hc => ?_, by omega, hc, fun v h' tk hP hk => ?_⟩
  · show c < (s.heap.push _).objs.size
    rw [Heap.size_push]
    simp only [List.mem_cons, List.not_mem_nil, or_false] at hc
    rcases hc with rfl | rfl
    · exact Nat.lt_succ_self _
    · exact Nat.lt_succ_of_lt lt
  · rw [sz] at hP
    exact h v h' tk hP fun c o e => hk c o (fun m => by
      rw [List.mem_singleton.mp m] at e
      exact absurd (Heap.lt_size e) (Nat.lt_irrefl _)) (Heap.get?_push_of_some _ e)
theorem two_lt {a b : Str} {t u : Tok} {v : Value} (h : (strVs [(a, t), (b, u)])[argBest (fun i j => ltS (strAt [(a, t), (b, u)] i) (strAt [(a, t), (b, u)] j)) 1]? = some v) : ∃ k, v = .str (minS a b) k := by
  unfold minS
  by_cases c : ltS b a = true
  · rw [if_pos c]
    have e : argBest (fun i j => ltS (strAt [(a, t), (b, u)] i) (strAt [(a, t), (b, u)] j)) 1 = 1 := by
      simp [argBest, strAt, c]
    rw [e] at h
    exact ⟨u, by simpa [strVs] using h.symm⟩
  · rw [if_neg c]
    have e : argBest (fun i j => ltS (strAt [(a, t), (b, u)] i) (strAt [(a, t), (b, u)] j)) 1 = 0 := by
      simp [argBest, strAt, c]
    rw [e] at h
    exact ⟨t, by simpa [strVs] using h.symm⟩
theorem two_gt {a b : Str} {t u : Tok} {v : Value} (h : (strVs [(a, t), (b, u)])[argBest (fun i j => ltS (strAt [(a, t), (b, u)] j) (strAt [(a, t), (b, u)] i)) 1]? = some v) : ∃ k, v = .str (maxS a b) k := by
  unfold maxS
  by_cases c : ltS a b = true
  · rw [if_pos c]
    have e : argBest (fun i j => ltS (strAt [(a, t), (b, u)] j) (strAt [(a, t), (b, u)] i)) 1 = 1 := by
      simp [argBest, strAt, c]
    rw [e] at h
    exact ⟨u, by simpa [strVs] using h.symm⟩
  · rw [if_neg c]
    have e : argBest (fun i j => ltS (strAt [(a, t), (b, u)] j) (strAt [(a, t), (b, u)] i)) 1 = 0 := by
      simp [argBest, strAt, c]
    rw [e] at h
    exact ⟨t, by simpa [strVs] using h.symm⟩
theorem min_tupS {l : Addr} {a b : Str} {t u : Tok} {Q : Value → Shared → Prop} (hh : A.handled = none) (hl : s.heap.IsTuple l (strVs [(a, t), (b, u)])) (h : ∀ k h' tk, (∀ c o, s.heap.get? c = some o → h'.get? c = some o) → Q (.str (minS a b) k) { s with heap := h', toks := tk }) :
    wpAny (model prog w) A (call (.builtin "min") [.ref l]) Q E s :=
  call_min_walk (walkS (A := A.in1) hh hl (by simp) (cmpS_lt (strAt [(a, t), (b, u)]) fun _ _ => strVs_at) fun v h' tk hv hk => by
    obtain ⟨k, rfl⟩ := two_lt hv
    exact h k h' tk hk)
theorem max_tupS {l : Addr} {a b : Str} {t u : Tok} {Q : Value → Shared → Prop} (hh : A.handled = none) (hl : s.heap.IsTuple l (strVs [(a, t), (b, u)])) (h : ∀ k h' tk, (∀ c o, s.heap.get? c = some o → h'.get? c = some o) → Q (.str (maxS a b) k) { s with heap := h', toks := tk }) :
    wpAny (model prog w) A (call (.builtin "max") [.ref l]) Q E s :=
  call_max_walk (walkS (A := A.in1) hh hl (by simp) (cmpS_gt (strAt [(a, t), (b, u)]) fun _ _ => strVs_at) fun v h' tk hv hk => by
    obtain ⟨k, rfl⟩ := two_gt hv
    exact h k h' tk hk)
theorem min_twoS {a b : Str} {t u : Tok} {Q : Value → Shared → Prop} (hh : A.handled = none) (h : ∀ k h' tk, (∀ c o, s.heap.get? c = some o → h'.get? c = some o) → Q (.str (minS a b) k) { s with heap := h', toks := tk }) :
    wpAny (model prog w) A (call (.builtin "min") [.str a t, .str b u]) Q E s :=
  call_min_two (walkS (A := A.in1) (s := { s with heap := s.heap.push { cls := .type "tuple", data := .seq #[.str a t, .str b u] } }) (xs := [(a, t), (b, u)]) hh ⟨_, Heap.get?_push_size _ rfl, rfl, 0, rfl⟩ (by simp) (cmpS_lt (strAt [(a, t), (b, u)]) fun _ _ => strVs_at) fun v h' tk hv hk => by
    obtain ⟨k, rfl⟩ := two_lt hv
    exact h k h' tk fun c o e => hk c o (Heap.get?_push_of_some _ e))
theorem max_twoS {a b : Str} {t u : Tok} {Q : Value → Shared → Prop} (hh : A.handled = none) (h : ∀ k h' tk, (∀ c o, s.heap.get? c = some o → h'.get? c = some o) → Q (.str (maxS a b) k) { s with heap := h', toks := tk }) :
    wpAny (model prog w) A (call (.builtin "max") [.str a t, .str b u]) Q E s :=
  call_max_two (walkS (A := A.in1) (s := { s with heap := s.heap.push { cls := .type "tuple", data := .seq #[.str a t, .str b u] } }) (xs := [(a, t), (b, u)]) hh ⟨_, Heap.get?_push_size _ rfl, rfl, 0, rfl⟩ (by simp) (cmpS_gt (strAt [(a, t), (b, u)]) fun _ _ => strVs_at) fun v h' tk hv hk => by
    obtain ⟨k, rfl⟩ := two_gt hv
    exact h k h' tk fun c o e => hk c o (Heap.get?_push_of_some _ e))
end
section
variable {X : Cx}
def rMM1 (K : PySem.W.Frag) (f : Str → Str → Str) : List V → Hp → VK → Prop := fun xs H Q => ∃ l a b, xs = [V.ref l] ∧ SqT K H l [.str a, .str b] ∧ Q (.str (f a b)) H
def rMM2 (f : Str → Str → Str) : List V → Hp → VK → Prop := fun xs H Q => ∃ a b, xs = [V.str a, .str b] ∧ Q (.str (f a b)) H
theorem tupS_of {pins : List (Addr × Obj)} {σ : L2.St} {H : Hp} {s : Shared} {l : Addr} {a b : Str} (I : Inv X pins σ H s) (h : SqT X.K H l [.str a, .str b]) : ∃ t u, s.heap.IsTuple l (strVs [(a, t), (b, u)]) := by
  obtain ⟨its, rv, ⟨o, ho, hc, n, hd⟩, _⟩ := I.tuple h
  cases rv with
  | cons r1 rv =>
    cases rv with
    | cons r2 rv =>
      cases rv
      obtain ⟨t, rfl⟩ := r1
      obtain ⟨u, rfl⟩ := r2
      exact ⟨t, u, o, ho, hc, n, by simpa [strVs] using hd⟩
theorem cr_min1 (hc : X.calm = true) : CallR X (.builtin "min") (rMM1 X.K minS) := by
  intro pins s σ H xs us Q I r h
  obtain ⟨l, a, b, rfl, ht, q⟩ := h
  rw [Vals.ref1 r]
  obtain ⟨t, u, hl⟩ := tupS_of I ht
  exact min_tupS (I.ok.hd hc) hl fun k h' tk hk => ⟨.str _, H, I.kept hk, ⟨_, rfl⟩, q⟩
theorem cr_max1 (hc : X.calm = true) : CallR X (.builtin "max") (rMM1 X.K maxS) := by
  intro pins s σ H xs us Q I r h
  obtain ⟨l, a, b, rfl, ht, q⟩ := h
  rw [Vals.ref1 r]
  obtain ⟨t, u, hl⟩ := tupS_of I ht
  exact max_tupS (I.ok.hd hc) hl fun k h' tk hk => ⟨.str _, H, I.kept hk, ⟨_, rfl⟩, q⟩
theorem cr_min2 (hc : X.calm = true) : CallR X (.builtin "min") (rMM2 minS) := by
  intro pins s σ H xs us Q I r h
  obtain ⟨a, b, rfl, q⟩ := h
  obtain ⟨u1, u2, rfl, ⟨t, rfl⟩, ⟨u, rfl⟩⟩ := vals2 r
  exact min_twoS (I.ok.hd hc) fun k h' tk hk => ⟨.str _, H, I.kept hk, ⟨_, rfl⟩, q⟩
theorem cr_max2 (hc : X.calm = true) : CallR X (.builtin "max") (rMM2 maxS) := by
  intro pins s σ H xs us Q I r h
  obtain ⟨a, b, rfl, q⟩ := h
  obtain ⟨u1, u2, rfl, ⟨t, rfl⟩, ⟨u, rfl⟩⟩ := vals2 r
  exact max_twoS (I.ok.hd hc) fun k h' tk hk => ⟨.str _, H, I.kept hk, ⟨_, rfl⟩, q⟩
/-- min, max: two ints, two texts, a tuple of two texts -/
def dMMx (g : Int → Int → Int) (f : Str → Str → Str) : List D → M D := fun ds μ => match ds with
  | [.int i, .int j] => .ok (.int (g i j)) μ
  | [.str a, .str b] => .ok (.str (f a b)) μ
  | [.tup [.str a, .str b]] => .ok (.str (f a b)) μ
  | _ => .no
def minI (i j : Int) : Int := if j < i then j else i
def maxI (i j : Int) : Int := if j > i then j else i
def rMMx (K : PySem.W.Frag) (g : Int → Int → Int) (f : Str → Str → Str) : List V → Hp → VK → Prop := fun xs H Q => (∃ i j, xs = [V.int i, V.int j] ∧ Q (.int (g i j)) H) ∨ rMM2 f xs H Q ∨ rMM1 K f xs H Q
theorem call_minX (hc : X.calm = true) : CallR X (.builtin "min") (rMMx X.K minI minS) := CallR.or (call_min2 hc) (CallR.or (cr_min2 hc) (cr_min1 hc))
theorem call_maxX (hc : X.calm = true) : CallR X (.builtin "max") (rMMx X.K maxI maxS) := CallR.or (call_max2 hc) (CallR.or (cr_max2 hc) (cr_max1 hc))
theorem m_mmx {K : PySem.W.Frag} {mg : Str → Option Value} {g : Int → Int → Int} {f : Str → Str → Str} : CallM K mg (rMMx K g f) (dMMx g f) := by
  intro H ρ μ vs ds Q E w rv p
  unfold dMMx at p
  split at p
  · cases rv with
    | cons r1 rv =>
      cases rv with
      | cons r2 rv =>
        cases rv
        cases r1
        cases r2
        exact .inl ⟨_, _, rfl, Post.ok w p (.int _)⟩
  · cases rv with
    | cons r1 rv =>
      cases rv with
      | cons r2 rv =>
        cases rv
        cases r1
        cases r2
        exact .inr (.inl ⟨_, _, rfl, Post.ok w p (.str _)⟩)
  · rename_i a b
    cases rv with
    | cons r1 rv =>
      cases rv
      rename_i v
      cases v with
      | ref l => exact .inr (.inr ⟨l, a, b, rfl, sqt_of (k := [.inr a, .inr b]) r1, Post.ok w p (.str _)⟩)
      | _ => exact nomatch r1
  · exact False.elim p
end
end CL

namespace CL
open PySem L2 PySem.Spec PyProof.Rows PySem.W
/-- as plain data; what is none is no datum -/
def encD (μ : Mem) (d : D) : PyData := (pd μ 40 d).getD .none
def leD (μ : Mem) : D → D → Bool := dataLe false (encD μ)
def sortD (μ : Mem) (ds : List D) : List D := ds.mergeSort (leD μ)
def noTup : PyData → Bool
  | .none => false
  | .tuple _ => false
  | _ => true
def isTup1 : PyData → Bool
  | .tuple (_ :: _) => true
  | _ => false
/-- may be sorted by what they are -/
def sortOk (μ : Mem) (ds : List D) : Bool := decide (ds.length ≤ lim) && ds.all (fun d => (pd μ 40 d).isSome && decide ((encD μ d).depth ≤ 40)) && ds.all (fun d => ds.all fun e => alike (encD μ d) (encD μ e)) && (ds.all (fun d => noTup (encD μ d)) || ds.all fun d => isTup1 (encD μ d))
section
variable {X : Cx}
def rSortD (K : PySem.W.Frag) (mg : Str → Option Value) : List V → Hp → VK → Prop := fun vs H Q => ∃ a xs ds ρ μ, vs = [V.ref a] ∧ SqL K H a xs ∧ RLm K mg H ρ μ xs ds ∧ Wd K mg H ρ μ ∧ sortOk μ ds = true ∧
  ∀ p ys, H p = none → RLm K mg H ρ μ ys (sortD μ ds) → Q (.ref p) (upd H p (.lst ys))
theorem each_of {K : PySem.W.Frag} {mg : Str → Option Value} {H : Hp} {Lv : Addr → Prop} {cs : List Addr} : ∀ {vs : List V} {ds : List D} {us : List Value}, RL K mg H Lv cs vs ds → Vals vs us → EachIs (fun u d => ∃ v, RelV v u ∧ R K mg H Lv cs v d) us ds
  | _, _, _, .nil, .nil => .nil
  | _, _, _, .cons r t, .cons q s => .cons ⟨_, q, r⟩ (each_of t s)
theorem of_each {K : PySem.W.Frag} {mg : Str → Option Value} {H : Hp} {Lv : Addr → Prop} {cs : List Addr} : ∀ {us : List Value} {ds : List D}, EachIs (fun u d => ∃ v, RelV v u ∧ R K mg H Lv cs v d) us ds → ∃ vs, Vals vs us ∧ RL K mg H Lv cs vs ds
  | _, _, .nil => ⟨[], .nil, .nil⟩
  | _, _, .cons ⟨v, q, r⟩ t => let ⟨vs, h1, h2⟩ := of_each t; ⟨v :: vs, .cons q h1, .cons r h2⟩
theorem each_imp {α β : Type} {R S : α → β → Prop} : ∀ {as : List α} {bs : List β}, EachIs R as bs → (∀ a b, b ∈ bs → R a b → S a b) → EachIs S as bs
  | _, _, .nil, _ => .nil
  | _, _, .cons r t, h => .cons (h _ _ List.mem_cons_self r) (each_imp t fun a b hb => h a b (.tail _ hb))
theorem cr_sortD (hu : X.A.units + 64 < cLine) : CallR X (.builtin "sorted") (rSortD X.K X.mg) := by
  intro pins s σ H vs us Q I r h
  obtain ⟨a, xs, ds, ρ, μ, rfl, hs, rl, w, ok, q⟩ := h
  obtain ⟨its, rv, hl, hz⟩ := I.list hs
  rw [Vals.ref1 r]
  unfold sortOk at ok
  simp only [Bool.and_eq_true, Bool.or_eq_true, decide_eq_true_eq, List.all_eq_true] at ok
  obtain ⟨⟨⟨k1, k2⟩, k3⟩, k4⟩ := ok
  have e := each_of rl rv
  have er : EachIs (fun u d => ∃ as, Reads s.heap u (encD μ d) as) its ds := each_imp e fun u d hd ⟨v, q1, q2⟩ => by
    obtain ⟨p, hp⟩ := Option.isSome_iff_exists.mp (k2 d hd).1
    have : encD μ d = p := by
      unfold encD
      rw [hp]
      rfl
    rw [this]
    exact Dp.reads I p v u (pd_ok w 40 v d p q2 hp) q1
  refine sorted_data (enc := encD μ) hl.isList e er ?_ ?_ (lim_line k1) (fun d hd => by have := (k2 d hd).2; omega) fun out hn ho => ?_
  · intro d hd d' hd'
    obtain ⟨x, hx, rfl⟩ := List.mem_map.mp hd
    obtain ⟨y, hy, rfl⟩ := List.mem_map.mp hd'
    exact k3 x hx y hy
  · rcases k4 with k4 | k4
    · refine .inr fun d hd => ?_
      obtain ⟨x, hx, rfl⟩ := List.mem_map.mp hd
      have := k4 x hx
      constructor
      · intro z
        rw [z] at this
        exact nomatch this
      · intro ys z
        rw [z] at this
        exact nomatch this
    · refine .inl fun d hd => ?_
      obtain ⟨x, hx, rfl⟩ := List.mem_map.mp hd
      have := k4 x hx
      unfold isTup1 at this
      split at this
      · exact ⟨_, _, by assumption⟩
      · exact nomatch this
  · obtain ⟨ys, y1, y2⟩ := of_each ho
    obtain ⟨ep, he⟩ := PyProof.Rows.sortedAll_at s.heap its out.toArray
    have ln : ys.length ≤ sizeLine := by
      rw [y1.length, hn]
      exact lim_line k1
    exact ⟨.ref _, upd H (s.heap.objs.size + 1) (.lst ys), I.laid (t' := s.toks) (fun _ _ => PyProof.Rows.sortedAll_old) (Nat.le_succ _) ⟨ln, out, ep, y1, he⟩, rfl, q _ ys (I.hok.fresh (Nat.le_succ _)) y2⟩
def dSortD (k : List D → M D) : List D → M D := fun ds μ => match ds with
  | [x] => (match lstOf μ x with
    | some xs => if sortOk μ xs = true then k (sortD μ xs) μ else .no
    | none => .no)
  | _ => .no
theorem m_sortD {K : PySem.W.Frag} {mg : Str → Option Value} {k : List D → M D} (hk : NewK k) : CallM K mg (rSortD K mg) (dSortD k) := by
  intro H ρ μ vs ds Q E w rv p
  unfold dSortD at p
  cases rv with
  | nil => exact False.elim p
  | cons r t =>
    cases t with
    | cons _ _ => exact False.elim p
    | nil =>
      rename_i v d
      dsimp only at p
      cases h1 : lstOf μ d with
      | none => rw [h1] at p; exact False.elim p
      | some xs =>
        rw [h1] at p
        dsimp only at p
        by_cases ok : sortOk μ xs = true
        · rw [if_pos ok] at p
          obtain ⟨a, ws, rfl, hR, rl⟩ := lstOf_ok w r h1
          exact ⟨a, ws, xs, ρ, μ, rfl, .inl hR, rl, w, ok, fun q ys hq ry => hk _ _ _ _ _ _ _ _ _ w ry p q hq⟩
        · rw [if_neg ok] at p
          exact False.elim p
end
end CL

namespace CL
open PySem L2 PySem.Spec PyProof.Rows
/-- from (H, ρ, μ) on, the hidden object p apart -/
structure ExP (p : Addr) (H : Hp) (ρ : Lc) (μ : Mem) (H' : Hp) (ρ' : Lc) (μ' : Mem) : Prop where
  x : Exx H (Live ρ μ) ρ.cs H' (Live ρ' μ') ρ'.cs
  hs : ρ'.hid = ρ.hid
  ha : ∀ a ∈ ρ.hid, a ≠ p → H' a = H a
section
variable {K : PySem.W.Frag} {mg : Str → Option Value} {H H1 : Hp} {ρ ρ1 : Lc} {μ μ1 : Mem} {p : Addr}
theorem ExP.of {H' : Hp} {ρ' : Lc} {μ' : Mem} (e : Exm H ρ μ H' ρ' μ') : ExP p H ρ μ H' ρ' μ' := ⟨e.x, e.hs, fun a h _ => e.ha a h⟩
theorem ExP.trans {H2 : Hp} {ρ2 : Lc} {μ2 : Mem} (a : ExP p H ρ μ H1 ρ1 μ1) (b : ExP p H1 ρ1 μ1 H2 ρ2 μ2) : ExP p H ρ μ H2 ρ2 μ2 :=
  ⟨a.x.trans b.x, b.hs.trans a.hs, fun x h n => (b.ha x (by rw [a.hs]; exact h) n).trans (a.ha x h n)⟩
/-- the turns of a loop that fills the hidden object p -/
theorem loop_core {Φ : (Hp → Prop) → L2.St → Hp → Prop} {Ct : CtR} {OK : List (List D) → List D → Prop} {its : Its} {t : Tgt} {tt : MB} {te : ML} {vs : List Nat} {σ : L2.St} {env : CL.Env} {J : It} {o1 : HO} {ys1 : List (List D)} {Qs : Hp → Prop} (hct : CtOk Ct)
    (hΦ : ∀ (Nx : Hp → Prop) (σ : L2.St) (H : Hp) (ρ : Lc) (μ : Mem) (env : CL.Env) (ds : List D) (μ' : Mem) (o : HO) (yss : List (List D)), Wd K mg H ρ μ → REnv K mg H ρ μ σ env → p ∈ ρ.hid → H p = some o → Ct H (Live ρ μ) ρ.cs o yss → te env μ = .ok ds μ' → OK yss ds →
      (∀ H' ρ' o', ExP p H ρ μ H' ρ' μ' → Wd K mg H' ρ' μ' → H' p = some o' → Ct H' (Live ρ' μ') ρ'.cs o' (yss ++ [ds]) → Nx H') → Φ Nx σ H)
    (ht : ∀ i ∈ t.slots, i ∈ vs) (w1 : Wd K mg H1 ρ1 μ1) (re1 : REnv K mg H1 ρ1 μ1 σ env) (hp1 : p ∈ ρ1.hid) (ho1 : H1 p = some o1) (ct1 : Ct H1 (Live ρ1 μ1) ρ1.cs o1 ys1) (wk : WalkM K mg J its H1 ρ1 μ1) {zs0 : List (List D)} {m0 : Mem} (hr : compL its t.put tt te (wipeE env vs) its.items μ1 = .ok zs0 m0) (hok : ∀ ys ds zs, zs0 = ys ++ ds :: zs → OK (ys1 ++ ys) ds)
    (hk : ∀ (H2 : Hp) (ρ2 : Lc) (o : HO), ExP p H1 ρ1 μ1 H2 ρ2 m0 → Wd K mg H2 ρ2 m0 → H2 p = some o → Ct H2 (Live ρ2 m0) ρ2.cs o (ys1 ++ zs0) → Qs H2) :
    ∃ W : Nat → Nat → Hp → Prop, (∃ m, W 0 m H1) ∧ ∀ i m H, W i m H →
      (J.stop i H ∧ Qs H) ∨ (J.go i H ∧ ∃ Nx : Hp → Prop, (∀ H', Nx H' → ∃ m', m' < m ∧ W (i + 1) m' H') ∧ ∀ x H', J.yld i H x H' → gM K mg t x (L2.wipe σ vs) H' fun σ2 H2 => L2.wipe σ2 vs = L2.wipe σ vs ∧ tMB K mg W0 tt σ2 H2 fun b H3 =>
        if b = true then Φ Nx σ2 H3 else Nx H3) := by
  let INV : Nat → Hp → Prop := fun i H => ∃ ρ μ o ys, ExP p H1 ρ1 μ1 H ρ μ ∧ Wd K mg H ρ μ ∧ H p = some o ∧ Ct H (Live ρ μ) ρ.cs o (ys1 ++ ys) ∧ REnv K mg H ρ μ (L2.wipe σ vs) (wipeE env vs) ∧
    ∃ zs, compL its t.put tt te (wipeE env vs) (its.items.drop i) μ = .ok zs m0 ∧ zs0 = ys ++ zs
  refine ⟨fun i m H => m = its.items.length - i ∧ i ≤ its.items.length ∧ INV i H, ⟨_, rfl, Nat.zero_le _, ρ1, μ1, o1, [], ExP.of Exm.refl, w1, ho1, by rw [List.append_nil]; exact ct1, REnv.wipe re1 vs, zs0, by rw [List.drop_zero]; exact hr, rfl⟩, ?_⟩
  rintro i m H ⟨rfl, hi, ρ, μ, o, ys, ex, w, hpo, ct, re, zs, hcomp, hys⟩
  have inh : p ∈ ρ.hid := by rw [ex.hs]; exact hp1
  by_cases hlt : i < its.items.length
  · rw [List.drop_eq_getElem_cons hlt] at hcomp
    unfold compL at hcomp
    by_cases ho : its.ok μ = true
    · rw [if_pos ho] at hcomp
      refine .inr ⟨wk.goes H ρ μ i ex.x w ho hlt, INV (i + 1), fun H' q => ⟨its.items.length - (i + 1), by omega, rfl, hlt, q⟩, fun x H3 hy => ?_⟩
      obtain ⟨e3, w3, r3⟩ := wk.yields H ρ μ i x H3 its.items[i] ex.x w ho (by simp [hlt]) hy
      cases hput : t.put its.items[i] (wipeE env vs) with
      | none => rw [hput] at hcomp; exact nomatch hcomp
      | some env1 =>
        rw [hput] at hcomp
        obtain ⟨b, μ5, htt, hc5⟩ := bindN_ok hcomp
        refine ⟨ρ, μ, wipeE env vs, env1, its.items[i], w3, re.mono e3, r3, hput, fun σ4 re4 hw4 => ⟨by rw [hw4 vs ht, wipe_wipe], ρ, μ, env1, w3, re4, ?_⟩⟩
        rw [htt]
        intro H5 ρ5 e5 w5
        have e35 := e3.trans e5
        have ex5 : ExP p H1 ρ1 μ1 H5 ρ5 μ5 := ex.trans (ExP.of e35)
        have D5 : H5 p = some o := (e35.ha p inh).trans hpo
        have ct5 := hct.mono e35.x ct
        have re5 := re.mono e35
        cases b with
        | false => exact ⟨ρ5, μ5, o, ys, ex5, w5, D5, ct5, re5, zs, hc5, hys⟩
        | true =>
          obtain ⟨ds, μ6, hte, hc6⟩ := bindN_ok (show (te env1 μ5).bindN _ = _ from hc5)
          obtain ⟨zs', m', hrest, hz⟩ := bindN_ok hc6
          injection hz with z1 z2
          subst z1 z2
          refine hΦ _ σ4 H5 ρ5 μ5 env1 ds μ6 o (ys1 ++ ys) w5 (re4.mono e5) (by rw [ex5.hs]; exact hp1) D5 ct5 hte (hok ys ds zs' hys) fun H6 ρ6 o6 e6 w6 h6 ct6 => ?_
          have q : REnv K mg H6 ρ6 μ6 (L2.wipe σ vs) (wipeE env vs) := ⟨re5.len, fun i d h => let ⟨v, h1, h2⟩ := re5.at_ i d h; ⟨v, h1, h2.mono e6.x⟩⟩
          exact ⟨ρ6, μ6, o6, ys ++ [ds], ex5.trans e6, w6, h6, by rw [← List.append_assoc]; exact ct6, q, zs', hrest, by rw [hys]; simp⟩
    · rw [if_neg ho] at hcomp
      exact nomatch hcomp
  · have e : i = its.items.length := by omega
    subst e
    rw [List.drop_length] at hcomp
    unfold compL at hcomp
    by_cases ho : its.ok μ = true
    · rw [if_pos ho] at hcomp
      injection hcomp with z1 z2
      subst z1 z2
      rw [List.append_nil] at hys
      subst hys
      exact .inl ⟨wk.stops H ρ μ ex.x w ho, hk H ρ o ex w hpo ct⟩
    · rw [if_neg ho] at hcomp
      exact nomatch hcomp
end
/-- a list that is filled -/
def CtL (K : PySem.W.Frag) (mg : Str → Option Value) : CtR := fun H Lv cs o yss => ∃ acc, o = .lst acc ∧ RL K mg H Lv cs acc yss.flatten
theorem ctL_ok {K : PySem.W.Frag} {mg : Str → Option Value} : CtOk (CtL K mg) where
  tup := fun ⟨_, e, _⟩ xs z => by rw [e] at z; exact nomatch z
  mono := fun e ⟨acc, h1, h2⟩ => ⟨acc, h1, h2.mono e⟩
/-- the second clause: the elements of one turn of the first -/
def comp2 (mi : MI) (t : Tgt) (tt : MB) (te : ME) (vs1 : List Nat) : ML := fun env μ => (mi env μ).bind fun it m => (compL it t.put tt (mCons te mNil) (wipeE env vs1) it.items m).bindN fun yss m' => .ok yss.flatten m'
/-- [te for tg in mi if tt for tg1 in mi1 if tt1] -/
def mComp2 (k : List D → M D) (mi : MI) (tg : Tgt) (tt : MB) (mi1 : MI) (tg1 : Tgt) (tt1 : MB) (te : ME) (vs vs1 : List Nat) : ME := fun env μ => (mi env μ).bind fun it m => (compL it tg.put tt (comp2 mi1 tg1 tt1 te vs1) (wipeE env vs) it.items m).bindN fun yss m' =>
  if yss.flatten.length ≤ lim then k yss.flatten m' else .no
section
variable {X : Cx} {W : WX} {σ : L2.St} {H : Hp}
theorem mCons_one {te : ME} {env : CL.Env} {μ m : Mem} {ds : List D} (h : mCons te mNil env μ = .ok ds m) : ∃ d, ds = [d] ∧ te env μ = .ok d m := by
  unfold mCons at h
  cases h1 : te env μ with
  | ok d m1 =>
    rw [h1] at h
    cases h
    exact ⟨d, rfl, rfl⟩
  | ex c x m => rw [h1] at h; exact nomatch h
  | no => rw [h1] at h; exact nomatch h
theorem comp2_in {K : PySem.W.Frag} {mg : Str → Option Value} {k : List D → M D} (hk : KNew K mg k) {mi mi1 : MI} {tg tg1 : Tgt} {tt tt1 : MB} {te : ME} {vs vs1 : List Nat} (ht : ∀ i ∈ tg.slots, i ∈ vs) (ht1 : ∀ i ∈ tg1.slots, i ∈ vs1) {Q : VK} (h : tM K mg W (mComp2 k mi tg tt mi1 tg1 tt1 te vs vs1) σ H Q) :
    tLc2 (tMI K mg W mi) (gM K mg tg) (tMB K mg W0 tt) (tMI K mg W0 mi1) (gM K mg tg1) (tMB K mg W0 tt1) (tM K mg W0 te) vs vs1 σ H Q := by
  obtain ⟨ρ, μ, env, w, re, p⟩ := h
  have p0 : PostI K mg (mi env μ) H ρ μ (fun J H1 => ∃ t' ρ1 μ1, Exm H ρ μ H1 ρ1 μ1 ∧ Wd K mg H1 ρ1 μ1 ∧ WalkM K mg J t' H1 ρ1 μ1 ∧ Post K mg ((compL t' tg.put tt (comp2 mi1 tg1 tt1 te vs1) (wipeE env vs) t'.items μ1).bindN fun yss m' =>
      if yss.flatten.length ≤ lim then k yss.flatten m' else .no) H1 ρ1 μ1 Q (fun c od H' => W c od σ H')) (fun c od H' => W c od σ H') := by
    unfold mComp2 at p
    cases hmi : mi env μ with
    | ok t' m => rw [hmi] at p; exact fun J H1 ρ1 e w1 wk => ⟨t', ρ1, m, e, w1, wk, Post.base e p⟩
    | ex c x m => rw [hmi] at p; exact p
    | no => rw [hmi] at p; exact p
  refine ⟨ρ, μ, env, w, re, PostI.imp p0 (fun J H1 ⟨its, ρ1, μ1, e1, w1, wk, p1⟩ => fun Dd hD => ?_) fun _ _ _ z => z⟩
  obtain ⟨ys0, m0, hr, p2⟩ := bindN_ne p1
  by_cases hl : ys0.flatten.length ≤ lim
  · rw [if_pos hl] at p2
    -- the new list, hidden
    obtain ⟨ex0, w0⟩ := hid_new (o := .lst []) w1 hD (fun _ z => nomatch z)
    have re0 : REnv K mg (upd H1 Dd (.lst [])) ⟨ρ1.cs, Dd :: ρ1.hid⟩ μ1 σ env := by
      have q := re.mono e1
      exact ⟨q.len, fun i d h => let ⟨v, h1, h2⟩ := q.at_ i d h; ⟨v, h1, h2.mono ex0⟩⟩
    have wk0 : WalkM K mg J its (upd H1 Dd (.lst [])) ⟨ρ1.cs, Dd :: ρ1.hid⟩ μ1 :=
      ⟨fun H' ρ' μ' i e => wk.goes H' ρ' μ' i (ex0.trans e), fun H' ρ' μ' e => wk.stops H' ρ' μ' (ex0.trans e), fun H' ρ' μ' i x H2 d e => wk.yields H' ρ' μ' i x H2 d (ex0.trans e)⟩
    refine loop_core (p := Dd) (Ct := CtL K mg) (OK := fun yss ds => (yss.flatten ++ ds).length ≤ lim) (o1 := .lst []) (ys1 := []) (Qs := fun H => Q (.ref Dd) H) ctL_ok (fun Nx σ H ρ μ env ds μ' o yss w re hp ho ct hte hok hn => ?_) ht w0 re0 List.mem_cons_self upd_same ⟨[], rfl, .nil⟩ wk0 hr (fun ys ds zs e => ?_) fun H2 ρ2 o ex w2 hDd ct => ?_
    · -- a turn of the first clause: the second one's loop
      unfold comp2 at hte
      refine ⟨ρ, μ, env, w, re, ?_⟩
      cases hmi : mi1 env μ with
      | ok t2 m =>
        rw [hmi] at hte
        obtain ⟨zss, m2, hz, e⟩ := bindN_ok (show (compL t2 tg1.put tt1 (mCons te mNil) (wipeE env vs1) t2.items m).bindN _ = _ from hte)
        cases e
        intro J1 H4 ρ4 e4 w4 wk4
        have in4 : Dd ∈ ρ4.hid := by rw [e4.hs]; exact hp
        refine loop_core (p := Dd) (Ct := CtL K mg) (OK := fun yss ds => (yss.flatten ++ ds).length ≤ lim ∧ ∃ d, ds = [d]) (o1 := o) (ys1 := yss) (Φ := fun Nx1 σ3 H6 => tM K mg W0 te σ3 H6 fun y H7 => ∃ acc, H7 Dd = some (.lst acc) ∧ acc.length < sizeLine ∧ Nx1 (upd H7 Dd (.lst (acc ++ [y])))) (Qs := Nx) ctL_ok
          (fun Nx1 σ3 H6 ρ6 μ6 env6 ds6 μ7 o6 yss6 w6 re6 hp6 ho6 ct6 hte6 hok6 hn6 => ?_) ht1 w4 (re.mono e4) in4 ((e4.ha Dd hp).trans ho) (ctL_ok.mono e4.x ct) wk4 hz (fun ys ds zs e => ?_) fun H2 ρ2 o2 ex2 w2 h2 ct2 => ?_
        · obtain ⟨d, rfl, hd⟩ := mCons_one hte6
          refine ⟨ρ6, μ6, env6, w6, re6, ?_⟩
          rw [hd]
          intro v H8 ρ8 e8 w8 r8
          obtain ⟨acc, rfl, ra⟩ := ctL_ok.mono e8.x ct6
          have in8 : Dd ∈ ρ8.hid := by rw [e8.hs]; exact hp6
          have h8 : H8 Dd = some (.lst acc) := (e8.ha Dd hp6).trans ho6
          refine ⟨acc, h8, ?_, ?_⟩
          · have := hok6.1
            rw [ra.length]
            rw [List.length_append, List.length_singleton] at this
            exact lim_lt (by omega)
          · obtain ⟨exu, wu⟩ := hid_upd (o := .lst (acc ++ [v])) w8 in8 (fun _ z => nomatch z)
            refine hn6 _ ρ8 (.lst (acc ++ [v])) ⟨e8.x.trans exu, e8.hs, fun a ha n => (upd_ne n).trans (e8.ha a ha)⟩ wu upd_same ⟨_, rfl, ?_⟩
            rw [List.flatten_append]
            exact (RL.append ra (.one r8)).mono exu
        · have tot : (yss.flatten ++ zss.flatten).length ≤ lim := hok
          rw [e] at tot
          obtain ⟨d, rfl⟩ := compL_all (Pd := fun ds => ∃ d, ds = [d]) (fun env μ ds m h => let ⟨d, e, _⟩ := mCons_one h; ⟨d, e⟩) _ _ _ _ _ hz ds (by rw [e]; simp)
          refine ⟨?_, d, rfl⟩
          simp only [List.flatten_append, List.flatten_cons, List.length_append, List.length_cons, List.length_nil] at tot ⊢
          omega
        · refine hn H2 ρ2 o2 ((ExP.of e4).trans ex2) w2 h2 ?_
          obtain ⟨acc, h3, h4⟩ := ct2
          refine ⟨acc, h3, ?_⟩
          rw [List.flatten_append, List.flatten_cons, List.flatten_nil, List.append_nil]
          rw [List.flatten_append] at h4
          exact h4
      | ex c x m => rw [hmi] at hte; exact nomatch hte
      | no => rw [hmi] at hte; exact nomatch hte
    · rw [e] at hl
      simp only [List.flatten_append, List.flatten_cons, List.length_append, List.nil_append] at hl ⊢
      omega
    · obtain ⟨acc, rfl, ra⟩ := ct
      rw [List.nil_append] at ra
      exact hk H1 ρ1 μ1 H2 ρ2 m0 Dd acc ys0.flatten Q _ (fun a ha => let ⟨o, e, _⟩ := (w1.hid a ha).1; ⟨o, e⟩) (ex0.trans ex.x) (fun a ha => by
        have n : a ≠ Dd := fun z => by
          obtain ⟨⟨u, e, _⟩, _⟩ := w1.hid a ha
          rw [z, hD] at e
          exact nomatch e
        exact (ex.ha a (List.mem_cons_of_mem _ ha) n).trans (upd_ne n)) ex.hs w2 hD hDd ra p2
  · rw [if_neg hl] at p2
    exact False.elim p2
theorem se_comp2 {elt tg iter tg1 iter1 : Expr} {ifs ifs1 : List Expr} {scope : Scope} {own : List (Str × Nat)} {vs1 : List Nat} {pos : Pos} {mi mi1 : MI} {t t1 : Tgt} {tt tt1 : MB} {te : ME} {k : List D → M D} (hk : KNew X.K X.mg k) (hc : X.calm = true) (hN : X.N.Nodup) (hi : SI X W tg iter mi) (ok : BlkOk X.N X.env.scope scope own) (hv : ∀ i ∈ vs1, i ∈ own.map (·.2))
    (ht : ∀ i ∈ t.slots, i ∈ own.map (·.2)) (ht1 : ∀ i ∈ t1.slots, i ∈ vs1)
    (hg : ∀ (s : Shared) (H : Hp) (C : Addr) (cl : List (Str × Addr)) (fp : List Addr), SG (Bl X s H scope cl C fp) tg t) (hts : ∀ (s : Shared) (H : Hp) (C : Addr) (cl : List (Str × Addr)) (fp : List Addr), STs (Bl X s H scope cl C fp) W0 ifs tt)
    (hi1 : ∀ (s : Shared) (H : Hp) (C : Addr) (cl : List (Str × Addr)) (fp : List Addr), SI (Bl X s H scope cl C fp) W0 tg1 iter1 mi1)
    (hg1 : ∀ (s : Shared) (H : Hp) (C : Addr) (cl : List (Str × Addr)) (fp : List Addr), SG (Bl X s H scope cl C fp) tg1 t1) (hts1 : ∀ (s : Shared) (H : Hp) (C : Addr) (cl : List (Str × Addr)) (fp : List Addr), STs (Bl X s H scope cl C fp) W0 ifs1 tt1)
    (he : ∀ (s : Shared) (H : Hp) (C : Addr) (cl : List (Str × Addr)) (fp : List Addr), SE (Bl X s H scope cl C fp) W0 elt te) (hs : ∀ x, foldedSetIterable iter X.env x = pure x := by intro _; rfl) (hs1 : ∀ env x, foldedSetIterable iter1 env x = pure x := by intro _ _; rfl) :
    SE X W (.ListComp elt [⟨tg, iter, ifs, 0⟩, ⟨tg1, iter1, ifs1, 0⟩] scope pos) (mComp2 k mi t tt mi1 t1 tt1 te (own.map (·.2)) vs1) :=
  PE.imp (pe_lc2 hc hN hi ok hv hg hts hi1 hg1 hts1 he hs hs1) fun σ H Q h => comp2_in hk ht ht1 h
end
end CL

namespace CL
open PySem L2 PySem.Spec PyProof.Rows
/-- an own class: its name, the attributes that stand in no class, the methods -/
structure KR where
  c : Str
  ats : List Str
  ms : List Str
abbrev ka (K : PySem.W.Frag) (x : KR) : Addr := He.ga K x.c
structure KrF (K : PySem.W.Frag) (x : KR) : Prop where
  cls : Cls K (ka K x)
  no : ∀ f ∈ x.ats, NoAttr K (ka K x) f
  me : ∀ m ∈ x.ms, Meth K (ka K x) m (He.ma K (ka K x) m)
  made : PySem.W.makesIn K (ka K x) = true ∧ PySem.W.keepIn K (.ref (ka K x)) = true
  ne : PySem.W.findIn K (.ref (ka K x)) "__ne__" = some (some (.builtin "object.__ne__"))
  ob : PySem.W.mroIn K (ka K x) (.type "object") = some true
  ca : PySem.W.findIn K (.ref (ka K x)) "__class__" = some (some (.builtin "object.__class__"))
  ks : ∀ n ∈ kinds, PySem.W.kitOne K (.type n) (.ref (ka K x)) = some false
def krB (K : PySem.W.Frag) (x : KR) : Bool :=
  (He.Fa.glo x.c).ok K && ((PySem.W.plainGet K (ka K x) Str.empty && (PySem.W.hasDictIn K (ka K x) && (PySem.W.plainOver K (ka K x) && decide (PySem.W.findIn K (.ref (ka K x)) "__setattr__" = some (some (.builtin "object.__setattr__")))))) &&
  ((x.ats.all fun f => decide (PySem.W.findIn K (.ref (ka K x)) f = some none)) &&
  ((x.ms.all fun m => decide (PySem.W.findIn K (.ref (ka K x)) m = some (some (.ref (He.ma K (ka K x) m)))) && (PySem.W.isFn K (.ref (He.ma K (ka K x) m)) && PySem.W.keepIn K (.ref (He.ma K (ka K x) m)))) &&
  ((PySem.W.makesIn K (ka K x) && PySem.W.keepIn K (.ref (ka K x))) &&
  (decide (PySem.W.findIn K (.ref (ka K x)) "__ne__" = some (some (.builtin "object.__ne__"))) && (decide (PySem.W.mroIn K (ka K x) (.type "object") = some true) && (decide (PySem.W.findIn K (.ref (ka K x)) "__class__" = some (some (.builtin "object.__class__"))) &&
  (kinds.all fun n => decide (PySem.W.kitOne K (.type n) (.ref (ka K x)) = some false)))))))))
theorem kr_ok {K : PySem.W.Frag} {x : KR} (h : krB K x = true) : KrF K x := by
  unfold krB at h
  simp only [Bool.and_eq_true, decide_eq_true_eq, List.all_eq_true] at h
  obtain ⟨_, ⟨a1, a2, a3, a4⟩, b, c, d, e, f, g, i⟩ := h
  exact ⟨⟨a1, a2, a3, a4⟩, b, fun m hm => ⟨(c m hm).1, (c m hm).2.1, (c m hm).2.2⟩, d, e, f, g, i⟩
/-- what of K itself is asked -/
structure KbF (K : PySem.W.Frag) : Prop where
  hn : PySem.W.specialIn K (.builtin "object.__class__") "__get__" = some (some (.builtin "getset_descriptor.__get__"))
  tk : PySem.W.takesIn K (.builtin "object.__class__") = some true
def kbB (K : PySem.W.Frag) : Bool := decide (PySem.W.specialIn K (.builtin "object.__class__") "__get__" = some (some (.builtin "getset_descriptor.__get__"))) && decide (PySem.W.takesIn K (.builtin "object.__class__") = some true)
theorem kb_ok {K : PySem.W.Frag} (h : kbB K = true) : KbF K := by
  unfold kbB at h
  simp only [Bool.and_eq_true, decide_eq_true_eq] at h
  exact ⟨h.1, h.2⟩
def owK (ks : List KR) (K : PySem.W.Frag) : Bool := kbB K && (ks.all (krB K) && ks.all fun x => ks.all fun y => decide (PySem.W.kitOne K (.ref (ka K x)) (.ref (ka K y)) = some (decide (x.c = y.c))))
structure KFs (K : PySem.W.Frag) (mg : Str → Option Value) (ks : List KR) : Prop where
  b : ks ≠ [] → KbF K
  k : ∀ x ∈ ks, mg x.c = some (.ref (ka K x)) ∧ KrF K x
  i : ∀ x ∈ ks, ∀ y ∈ ks, PySem.W.kitOne K (.ref (ka K x)) (.ref (ka K y)) = some (decide (x.c = y.c))
theorem kfs_of {K : PySem.W.Frag} {mg : Str → Option Value} {ks : List KR} {hp : Heap} (X : K.In hp) (G : hp.Ns mainGlobals mg) (h : owK ks K = true) : KFs K mg ks := by
  unfold owK at h
  simp only [Bool.and_eq_true, decide_eq_true_eq, List.all_eq_true] at h
  obtain ⟨a, b, c⟩ := h
  refine ⟨fun _ => kb_ok a, fun x hx => ⟨He.glo_ok X G ?_, kr_ok (b x hx)⟩, c⟩
  have := b x hx
  unfold krB at this
  exact (Bool.and_eq_true_iff.mp this).1
/-- all that is asked of K -/
def owA (xs : List XR) (bs : List (String × List Str)) (ks : List KR) (K : PySem.W.Frag) : Bool := owX xs bs K && (ks.isEmpty || owK ks K)
theorem owA_x {xs : List XR} {bs : List (String × List Str)} {ks : List KR} {K : PySem.W.Frag} (h : owA xs bs ks K = true) : owX xs bs K = true := (Bool.and_eq_true_iff.mp h).1
theorem owA_k {xs : List XR} {bs : List (String × List Str)} {ks : List KR} {K : PySem.W.Frag} {mg : Str → Option Value} {hp : Heap} (X : K.In hp) (G : hp.Ns mainGlobals mg) (h : owA xs bs ks K = true) : KFs K mg ks := by
  have e := (Bool.and_eq_true_iff.mp h).2
  cases ks with
  | nil => exact ⟨fun z => absurd rfl z, (fun _ hx => nomatch hx), (fun _ hx => nomatch hx)⟩
  | cons y r => exact kfs_of X G (by simpa using e)
section
variable {prog : Program} {w : World} {A : Around} {E : Value → Shared → Prop} {s : Shared} {K : PySem.W.Frag} {x C f b : Addr} {ox : Obj} {od : Option Obj}
/-- `__ne__` is object's: it asks `__eq__` -/
theorem ne_run {Q : Value → Shared → Prop} (hu : A.units + 1 < cLine) (X : K.In s.heap) (I : PySem.W.InstAt s.heap x ox C od) (J : PySem.W.Looks (model prog w) s.heap (typeOf (.ref b)) (.ref C))
    (hn : PySem.W.findIn K (.ref C) "__ne__" = some (some (.builtin "object.__ne__"))) (ho : PySem.W.mroIn K C (.type "object") = some true)
    (hs : PySem.W.findIn K (.ref C) "__eq__" = some (some (.ref f))) (hf : PySem.W.isFn K (.ref f) = true)
    (h : wpAny (model prog w) A.in1 (call (.ref f) [.ref x, .ref b]) (fun v s' => ∃ k, v = .bool k ∧ Q (.bool (!k)) s') E s) : wpAny (model prog w) A (richCompare .NotEq (.ref x) (.ref b)) Q E s := by
  have hi : PySem.W.Looks (model prog w) s.heap (isInstance (.ref x) (.type "object")) true := I.type.andThen (PySem.W.looks_mroIn X ho)
  have body : wpAny (model prog w) A.in1 (Builtin.«object.__ne__» ⟨[.ref x, .ref b], []⟩) (fun fin s' => ∃ k, fin = .done (.ret (.bool k)) ∧ Q (.bool k) s') E s := by
    unfold Builtin.«object.__ne__»
    refine wpAny_bind (m := slotArgs "__ne__" 1 _) (wpAny_of_eq (a := (.ref x, [.ref b])) rfl ?_)
    dsimp only
    refine wpAny_bind (wpAny_cRoomFor hu ?_)
    refine wpAny_bind (PySem.W.ifBound_K X I hs hf (wpAny_mono h (fun v s' hv => ?_) fun _ _ e => e))
    obtain ⟨k, e, q⟩ := hv
    subst e
    refine wpAny_bind (m := truthy (.bool k)) (wpAny_truthy_bool ?_)
    exact wpAny_pure ⟨!k, rfl, q⟩
  have spc : wpAny (model prog w) A (callSpecialIfBound? (.ref x) "__ne__" [.ref b]) (fun r s' => ∃ k, r = some (.bool k) ∧ Q (.bool k) s') E s := by
    simp only [callSpecialIfBound?, bindSpecialIfBound?]
    have ask := I.type.andThen (f := fun t => typeLookup t "__ne__") (PySem.W.looks_findIn (M := model prog w) X hn)
    refine wpAny_holding (wpAny_bind (wpAny_bind (ask.here ?_)))
    have hb : bindSpecial (.builtin "object.__ne__") (.ref x) = pure (.builtin "object.__ne__", [.ref x]) := PySem.F.cmp_object.ne.bind _
    simp only [hb]
    refine wpAny_bind (wpAny_askSetting (wpAny_ite ?_))
    have cl : wpAny (model prog w) A (call (.builtin "object.__ne__") [.ref x, .ref b]) (fun v s' => ∃ k, v = .bool k ∧ Q (.bool k) s') E s := by
      refine wpAny_call (codeAny_call_builtin PySem.F.cmp_object.ne.plain PySem.F.cmpEntry_ne (PySem.W.check_slot PySem.F.cmpKind_ne PySem.F.cmpSplit_ne hi (PySem.F.cmpArgs_ne _ _) (wpAny_mono body (fun fin s' z => ?_) fun _ _ e => e)))
      obtain ⟨k, e, q⟩ := z
      subst e
      exact ⟨k, rfl, q⟩
    have fin : wpAny (model prog w) A (call (.builtin "object.__ne__") ([.ref x] ++ [.ref b]) >>= fun v => pure (some v)) (fun r s' => ∃ k, r = some (.bool k) ∧ Q (.bool k) s') E s := by
      refine wpAny_bind (wpAny_mono cl (fun v s' z => ?_) fun _ _ e => e)
      obtain ⟨k, e, q⟩ := z
      subst e
      exact wpAny_pure ⟨_, rfl, q⟩
    split
    · exact wpAny_bind (wpAny_pure (wpAny_pure (by exact fin)))
    · exact wpAny_tryCatch (wpAny_bind (wpAny_pure (wpAny_pure (by exact fin))))
  have one : wpAny (model prog w) A (tryCompare (.ref x) "__ne__" (.ref b)) (fun r s' => ∃ v, r = some v ∧ Q v s') E s := by
    unfold tryCompare
    refine wpAny_bind (wpAny_mono spc (fun v s' hv => ?_) fun _ _ e => e)
    obtain ⟨k, e, q⟩ := hv
    subst e
    exact wpAny_pure ⟨_, rfl, q⟩
  unfold richCompare
  simp only [oneThing_ref]
  refine wpAny_holding (wpAny_bind (wpAny_cRoomFor (by omega) ?_))
  refine wpAny_bind (I.type.here (wpAny_bind (J.here ?_)))
  rw [show (Value.ref C != Value.ref C) = false from by simp]
  simp only [Bool.false_eq_true, if_false]
  refine wpAny_bind (wpAny_pure ?_)
  simp only [Bool.false_eq_true, if_false]
  refine wpAny_bind (wpAny_mono one (fun r s' z => ?_) fun _ _ e => e)
  obtain ⟨v, e, hq⟩ := z
  subst e
  exact wpAny_pure hq
/-- len(x) asks `__len__` -/
theorem len_runK {Q : Value → Shared → Prop} (X : K.In s.heap) (I : PySem.W.InstAt s.heap x ox C od) (hs : PySem.W.findIn K (.ref C) "__len__" = some (some (.ref f))) (hf : PySem.W.isFn K (.ref f) = true)
    (h : wpAny (model prog w) A.in1 (call (.ref f) [.ref x]) (fun v s' => ∃ n t, v = .int n t ∧ 0 ≤ n ∧ n < 2 ^ 63 ∧ Q (.int n s'.toks) { s' with toks := s'.toks + 1 }) E s) : wpAny (model prog w) A (call (.builtin "len") [.ref x]) Q E s := by
  refine Calls.call_function_entry kind_len plain_len entry_len (args_len1 _) ?_
  unfold Builtin.«len»
  refine wpAny_bind (m := oneArg "len" _) (wpAny_pure ?_)
  refine wpAny_bind (m := callSpecial? (.ref x) (PySem.Str.ofString "__len__")) (PySem.W.special_fn X I hs (beq_iff_eq.mp hf) (wpAny_mono h (fun v s' hv => ?_) fun _ _ e => e))
  obtain ⟨n, t, e, h0, h1, q⟩ := hv
  subst e
  refine wpAny_bind (wpAny_holding (wpAny_pure ?_))
  refine wpAny_bind (wpAny_letGo ?_)
  show wpAny _ _ (if n < 0 then _ else _) _ _ _
  rw [if_neg (by omega)]
  show wpAny _ _ (if n ≥ 2 ^ 63 then _ else _) _ _ _
  rw [if_neg (by omega)]
  exact wpAny_bind (wpAny_mkInt (wpAny_pure ⟨_, rfl, q⟩))
end
section
variable {X : Cx} {W : WX} {o e a b : Expr} {es : List Expr} {kws : List Keyword} {ks ps : List Str} {p pos apos kpos : Pos} {k n j : Nat} {ma mb me : ME} {g : List D → M D} {c : Str} {rs : List KR} {x : KR}
def dOwn (neg : Bool) (c : Str) (f : List D → M D) : D → D → M D := fun x y μ => match insOf μ x with
  | some (c1, _) => (match insOf μ y with
    | some (c2, _) => if c1 = c ∧ c2 = c then (f [x, y] μ).bind fun z m => (match z with
      | .bl k => .ok (.bl (k ^^ neg)) m
      | _ => .no) else .no
    | none => .no)
  | none => .no
/-- what `==` of a class needs -/
structure ClE (P : Program) (w : World) (K : PySem.W.Frag) (mg : Str → Option Value) (base : Heap) (c m : Str) (k n : Nat) (g : List D → M D) : Prop where
  ex : ∃ C f fd ps, Fn P w K mg base f fd ps k g ∧ mg c = some (.ref C) ∧ Meth K C m f ∧ (PySem.W.findIn K (.ref C) "__ne__" = some (some (.builtin "object.__ne__")) ∧ PySem.W.mroIn K C (.type "object") = some true) ∧ BnM K mg fd ps n [] gPos
theorem RmG.in1 {k : Nat} {A : Around} (r : RmG (k + 1) A) : RmG k A.in1 := ⟨r.toRoom.in1, r.gd⟩
theorem ins_look {pins : List (Addr × Obj)} {σ : L2.St} {H : Hp} {s : Shared} {a C dx : Addr} {fs : List (Str × V)} (I : Inv X pins σ H s) (ha : H a = some (.ins C dx fs)) : ∃ ox od, PySem.W.InstAt s.heap a ox C (some od) := by
  obtain ⟨mA, J, _⟩ := ins_get I.hok ha
  obtain ⟨od, J, _⟩ := J.look
  exact ⟨_, od, J⟩
/-- the def runs one deeper -/
theorem run_in {A : Around} {CX : CXT} {f : Addr} {fd : FuncData} {sp : Sp} {E : XK} {pins : List (Addr × Obj)} {σ : L2.St} {H : Hp} {s : Shared} {Q : VK} {us full : List Value} {kw : List (Str × Value)} {vs : List V} (F : FnG X.prog X.w X.K X.mg X.base CX k f fd ps sp) (hr : RmG k A) (hA : Env0 X.prog X.w X.K X.mg X.base A X.stack s H)
    (bt : BindsTo s fd ⟨us, kw⟩ (ps.zip full)) (hx : PassesAt CX X σ E) (I : Inv X pins σ H s) (r : Vals vs full) (h : sp vs H Q E) :
    wpAny (model X.prog X.w) A (call (.ref f) us kw) (EP X pins σ Q) X.xe s := by
  refine wpAny_call (codeAny_mono (F.run A X.stack s H ⟨us, kw⟩ full vs Q E hr hA bt r h) fun out s1 z => ?_)
  cases out with
  | ok fl =>
    cases fl with
    | ret u => exact I.after z
    | next => exact False.elim z
    | brk => exact False.elim z
    | cont => exact False.elim z
  | error x => exact hx pins H s x s1 I z
theorem pc_own {neg : Bool} {op : CmpOp} (hop : op = if neg = true then .NotEq else .Eq) (cl : ClE X.prog X.w X.K X.mg X.base c "__eq__" j 2 g) (hr : RmG k X.A) (hj : j + 1 ≤ k) (tk : Takes X W) (ha : SE X W a ma) (hb : SE X W b mb) :
    L2.PC X op a b (tM X.K X.mg W (mBin (dOwn neg c g) ma mb)) := by
  refine ⟨fun pins s σ H Q I h => ?_⟩
  obtain ⟨C, f, fd, ps, Fk, hm, hM, hN, hB⟩ := cl.ex
  obtain ⟨gv, gV, kb, hrel⟩ := hB.ex
  obtain ⟨ρ, μ, env, w, re, pp⟩ := h
  refine thn (ha.run pins s σ H _ I ⟨ρ, μ, env, w, re, Post.imp (post_bind pp) (fun v H1 hh => hh) fun _ _ _ z => z⟩) fun u s1 hh => ?_
  obtain ⟨v, H1, I1, rv, d, ρ1, μ1, e1, w1, r1, p1⟩ := hh
  refine thn (hb.run pins s1 σ H1 _ I1 ⟨ρ1, μ1, env, w1, re.mono e1, Post.imp (post_bind p1) (fun v H1 hh => hh) fun _ _ _ z => z⟩) fun u2 s2 hh2 => ?_
  obtain ⟨v2, H2, I2, rv2, d2, ρ2, μ2, e2, w2, r2, p2⟩ := hh2
  unfold dOwn at p2
  have r1' := r1.mono e2.x
  cases hi : insOf μ2 d with
  | none => rw [hi] at p2; exact False.elim p2
  | some z =>
    obtain ⟨c1, fds⟩ := z
    rw [hi] at p2
    dsimp only at p2
    cases hi2 : insOf μ2 d2 with
    | none => rw [hi2] at p2; exact False.elim p2
    | some z2 =>
      obtain ⟨c2, fds2⟩ := z2
      rw [hi2] at p2
      dsimp only at p2
      by_cases hc : c1 = c ∧ c2 = c
      · rw [if_pos hc] at p2
        obtain ⟨rfl, rfl⟩ := hc
        obtain ⟨x1, C1, dx, fs, ds0, rfl, hx1, hm1, _, _⟩ := insOf_ok w2 r1' hi
        obtain ⟨x2, C2, dx2, fs2, ds2, rfl, hx2, hm2, _, _⟩ := insOf_ok w2 r2 hi2
        have ec1 : C1 = C := by
          have := hm1.symm.trans hm
          injection this with this
          injection this
        have ec2 : C2 = C := by
          have := hm2.symm.trans hm
          injection this with this
          injection this
        subst ec1 ec2
        obtain rfl : u = Value.ref x1 := rv
        obtain rfl : u2 = Value.ref x2 := rv2
        obtain ⟨ox, od, J1⟩ := ins_look I2 hx1
        obtain ⟨ox2, od2, J2⟩ := ins_look I2 hx2
        have rr : RLm X.K X.mg H2 ρ2 μ2 [V.ref x1, V.ref x2] [d, d2] := .cons r1' (.cons r2 .nil)
        have rg := hrel _ _ _ _ _ _ _ rr .nil rfl rfl
        have q2 : Post X.K X.mg (g [d, d2] μ2) H2 ρ2 μ2 (fun v H' => ∃ kk, v = .bl kk ∧ Q (.bl (kk ^^ neg)) H') (fun c od H' => W c od σ H') := by
          refine Post.imp (post_bind p2) (fun v H' ⟨dd, ρ3, μ3, e3, w3, r3, p3⟩ => ?_) fun _ _ _ z => z
          cases r3 with
          | bl kk => exact ⟨kk, rfl, Post.ok w3 p3 (.bl _)⟩
          | _ => exact False.elim p3
        have sp := spM_of Fk.ar w2 rg q2
        have bt := kb.to s2 [Value.ref x1, Value.ref x2] [] I2.kIn rfl rfl
        have rv := kb.rel (us := [Value.ref x1, Value.ref x2]) (vs := [V.ref x1, V.ref x2]) (.cons rfl (.cons rfl .nil)) (zs := []) (ws := []) .nil
        cases neg with
        | false =>
          subst hop
          have run := run_go Fk.ok (hr.mono (show j ≤ k by omega)) bt (passAt tk σ) I2 rv sp
          obtain ⟨m, hF⟩ := I2.fr
          refine PySem.W.cmp_K (op := .Eq) (tb := .ref C2) hr.toRoom.units0 hF I2.ok.mod.kin J1 J2.type (by simp [PySem.W.notFirst]) hM.at_ hM.fn ?_
          refine wpAny_mono run (fun v s' z => ?_) fun _ _ y => y
          obtain ⟨v', H', I', rz, kk, ev, qz⟩ := z
          subst ev
          cases (show v = Value.bool kk from rz)
          exact ⟨.bl kk, H', I', rfl, by simpa using qz⟩
        | true =>
          subst hop
          have run := run_in (A := X.A.in1) Fk.ok ((hr.mono hj).in1) I2.env0.in1 bt (passAt tk σ) I2 rv sp
          refine ne_run (by have := hr.un; omega) I2.kIn J1 J2.type hN.1 hN.2 hM.at_ hM.fn ?_
          refine wpAny_mono run (fun v s' z => ?_) fun _ _ y => y
          obtain ⟨v', H', I', rz, kk, ev, qz⟩ := z
          subst ev
          cases (show v = Value.bool kk from rz)
          exact ⟨kk, rfl, .bl (!kk), H', I', rfl, by simpa using qz⟩
      · rw [if_neg hc] at p2
        exact False.elim p2
theorem se_own {neg : Bool} {op : CmpOp} (hop : op = if neg = true then .NotEq else .Eq) (cl : ClE X.prog X.w X.K X.mg X.base c "__eq__" j 2 g) (hr : RmG k X.A) (hj : j + 1 ≤ k) (tk : Takes X W) (ha : SE X W a ma) (hb : SE X W b mb)
    (hm : behindInMarks op b = false) : SE X W (.Compare a [op] [b] pos) (mBin (dOwn neg c g) ma mb) := pe_cmp (pc_own hop cl hr hj tk ha hb) hm
theorem sb_own {neg : Bool} {op : CmpOp} (hop : op = if neg = true then .NotEq else .Eq) (cl : ClE X.prog X.w X.K X.mg X.base c "__eq__" j 2 g) (hr : RmG k X.A) (hj : j + 1 ≤ k) (tk : Takes X W) (ha : SE X W a ma) (hb : SE X W b mb)
    (hm : behindInMarks op b = false) : ST X W (.Compare a [op] [b] pos) (bVal (mBin (dOwn neg c g) ma mb)) := PT.imp (pt_cmp (pc_own hop cl hr hj tk ha hb) hm) fun σ H Q h => bval_in h
/-- len(o) of an own instance -/
def mLenO (c : Str) (f : List D → M D) (o : ME) : ME := fun env μ => (o env μ).bind fun x m => match insOf m x with
  | some (c1, _) => if c1 = c then (f [x] m).bind fun z m2 => (match z with
    | .int i => if 0 ≤ i ∧ i < 2 ^ 63 then .ok (.int i) m2 else .no
    | _ => .no) else .no
  | none => .no
theorem se_lenO (cl : ClE X.prog X.w X.K X.mg X.base c "__len__" j 1 g) (hr : RmG k X.A) (hj : j + 1 ≤ k) (tk : Takes X W) (ho : SE X W o me) (hm0 : X.mg "len" = none) (hg : Gl X "len" := by rfl)
    (hs : starEach [o] X.env = (false, eval o X.env) :: starEach [] X.env := by rfl) (hpl : (backTo pos (starEach [] X.env)).any (·.1) = false := by rfl) : SE X W (.Call (.Name "len" p) [o] [] pos) (mLenO c g me) := by
  refine ⟨fun pins s σ H Q I h => ?_⟩
  obtain ⟨C, f, fd, ps, Fk, hm, hM, hN, hB⟩ := cl.ex
  obtain ⟨gv, gV, kb, hrel⟩ := hB.ex
  obtain ⟨ρ, μ, env, w, re, pp⟩ := h
  refine wpAny_Call_Name_kw (ld_blt I hg hm0 boot_len ?_ (by decide) (by decide))
  have hp := (pa_cons ho pa_nil hs).run pos pins s σ H (fun vs H1 => ∃ v d ρ1 μ1, vs = [v] ∧ Exm H ρ μ H1 ρ1 μ1 ∧ Wd X.K X.mg H1 ρ1 μ1 ∧ Rm X.K X.mg H1 ρ1 μ1 v d ∧ Post X.K X.mg ((fun x m => match insOf m x with
      | some (c1, _) => if c1 = c then (g [x] m).bind fun z m2 => (match z with
        | .int i => if 0 ≤ i ∧ i < 2 ^ 63 then .ok (.int i) m2 else .no
        | _ => .no) else .no
      | none => .no : D → M D) d μ1) H1 ρ1 μ1 Q (fun c od H' => W c od σ H')) I
    (show tM X.K X.mg W me σ H _ from ⟨ρ, μ, env, w, re, Post.imp (post_bind pp) (fun v H1 ⟨d, ρ1, μ1, e1, w1, r1, p1⟩ => ⟨v, d, ρ1, μ1, rfl, e1, w1, r1, p1⟩) fun _ _ _ z => z⟩)
  refine PyProof.Rows.callWith_builtin1 (thn hp fun us s1 hh => ?_) hs hpl
  obtain ⟨vs, H1, I1, rv, v, d, ρ1, μ1, ev, e1, w1, r1, p1⟩ := hh
  subst ev
  obtain ⟨u, rfl, ru⟩ := vals1 rv
  dsimp only at p1
  cases hi : insOf μ1 d with
  | none => rw [hi] at p1; exact False.elim p1
  | some z =>
    obtain ⟨c1, fds⟩ := z
    rw [hi] at p1
    dsimp only at p1
    by_cases hc : c1 = c
    · rw [if_pos hc] at p1
      subst hc
      obtain ⟨x1, C1, dx, fs, ds0, rfl, hx1, hm1, _, _⟩ := insOf_ok w1 r1 hi
      have ec1 : C1 = C := by
        have := hm1.symm.trans hm
        injection this with this
        injection this
      subst ec1
      obtain rfl : u = Value.ref x1 := ru
      obtain ⟨ox, od, J1⟩ := ins_look I1 hx1
      have rr : RLm X.K X.mg H1 ρ1 μ1 [V.ref x1] [d] := .cons r1 .nil
      have rg := hrel _ _ _ _ _ _ _ rr .nil rfl rfl
      have q2 : Post X.K X.mg (g [d] μ1) H1 ρ1 μ1 (fun v H' => ∃ i, v = .int i ∧ (0 ≤ i ∧ i < 2 ^ 63) ∧ Q (.int i) H') (fun c od H' => W c od σ H') := by
        refine Post.imp (post_bind p1) (fun v H' ⟨dd, ρ3, μ3, e3, w3, r3, p3⟩ => ?_) fun _ _ _ z => z
        cases r3 with
        | int i =>
          dsimp only at p3
          by_cases h0 : 0 ≤ i ∧ i < 2 ^ 63
          · rw [if_pos h0] at p3
            exact ⟨i, rfl, h0, Post.ok w3 p3 (.int _)⟩
          · rw [if_neg h0] at p3
            exact False.elim p3
        | _ => exact False.elim p3
      have sp := spM_of Fk.ar w1 rg q2
      have bt := kb.to s1 [Value.ref x1] [] I1.kIn rfl rfl
      have rv := kb.rel (us := [Value.ref x1]) (vs := [V.ref x1]) (.cons rfl .nil) (zs := []) (ws := []) .nil
      have run := run_in (A := X.A.in1) Fk.ok ((hr.mono hj).in1) I1.env0.in1 bt (passAt tk σ) I1 rv sp
      refine len_runK I1.kIn J1 hM.at_ hM.fn ?_
      refine wpAny_mono run (fun v s' z => ?_) fun _ _ y => y
      obtain ⟨v', H', I', rz, i, ev, h0, qz⟩ := z
      subst ev
      obtain ⟨t, e⟩ := (show ∃ t, v = Value.int i t from rz)
      cases e
      exact ⟨i, t, rfl, h0.1, h0.2, .int i, H', I'.tok _, ⟨_, rfl⟩, qz⟩
    · rw [if_neg hc] at p1
      exact False.elim p1
/-- isinstance of data against an own class of the table -/
def dIsiK (ks : List KR) (c : Str) : D → M D := fun d μ => match insOf μ d with
  | some (c1, _) => if (ks.any fun x => decide (x.c = c1)) = true then .ok (.bl (decide (c1 = c))) μ else .no
  | none => (match kindOf μ d with
    | some _ => .ok (.bl false) μ
    | none => .no)
theorem se_isiK {T : Str} {p2 : Pos} (Φ : KFs X.K X.mg rs) (hx : x ∈ rs) (eT : x.c = T) (he : SE X W e me) (hm : X.mg "isinstance" = none) (hg : Gl X "isinstance" := by rfl) (hg2 : Gl X T := by rfl) (hd : (T == ("__debug__" : Str)) = false := by decide)
    (hs : starEach [e, .Name T p2] X.env = (false, eval e X.env) :: starEach [.Name T p2] X.env := by rfl)
    (hpl : (backTo pos (starEach [.Name T p2] X.env)).any (·.1) = false := by rfl) : SE X W (.Call (.Name "isinstance" p) [e, .Name T p2] [] pos) (mUn (dIsiK rs T) me) := by
  subst eT
  have hm2 := (Φ.k x hx).1
  have F := (Φ.k x hx).2
  have B := Φ.b fun z => by rw [z] at hx; exact nomatch hx
  refine PE.imp (pe_callB call_isiY hg hm boot_isinstance (pa_cons he (pa_cons (pe_glob (v := .ref (ka X.K x)) hg2 hm2 rfl hd) pa_nil) hs) (by decide) (by decide) hs hpl) fun σ H Q ⟨ρ, μ, env, w, re, p⟩ => ?_
  refine ⟨ρ, μ, env, w, re, Post.imp (post_bind p) (fun v H1 ⟨d, ρ1, μ1, e1, w1, r1, p1⟩ => ?_) fun _ _ _ z => z⟩
  unfold dIsiK at p1
  cases hi : insOf μ1 d with
  | some z =>
    obtain ⟨c1, fds⟩ := z
    rw [hi] at p1
    dsimp only at p1
    by_cases hc : (rs.any fun x => decide (x.c = c1)) = true
    · rw [if_pos hc] at p1
      obtain ⟨y, hy, ey⟩ := List.any_eq_true.mp hc
      have ey := of_decide_eq_true ey
      subst ey
      obtain ⟨a, C, dx, fs, ds0, rfl, ha, hm1, _, _⟩ := insOf_ok w1 r1 hi
      have ec : C = ka X.K y := by
        have := hm1.symm.trans (Φ.k y hy).1
        injection this with this
        injection this
      subst ec
      have G := (Φ.k y hy).2
      exact ⟨.ref a, .ref (ka X.K x), .ref (ka X.K y), .ref (ka X.K x), _, rfl, .own _, .inl (.base (.ins ha G.cls G.ca B.hn B.tk G.ob)), Φ.i y hy x hx, Post.ok w1 p1 (.bl _)⟩
    · rw [if_neg hc] at p1
      exact False.elim p1
  | none =>
    rw [hi] at p1
    dsimp only at p1
    cases hk : kindOf μ1 d with
    | none => rw [hk] at p1; exact False.elim p1
    | some n =>
      rw [hk] at p1
      exact ⟨v, .ref (ka X.K x), .type n, .ref (ka X.K x), false, rfl, .own _, kindOf_ok w1 r1 hk, F.ks n (kindOf_in hk), Post.ok w1 p1 (.bl _)⟩
end
end CL

namespace CL
open PySem L2 PySem.Spec PyProof.Rows
/-- the keyword-only default x of the def at f, if it is an object -/
def kwdAt (f : Str × Option Str) (x : Str) (K : PySem.W.Frag) : Addr := match K.lookup (He.fAd K f) with
  | some ⟨_, _, .func fd, _⟩ => (match fd.kwdefaults with
    | .ref d => (match PySem.W.nsIn K d x with
      | some (some (.ref a)) => a
      | _ => 0)
    | _ => 0)
  | _ => 0
/-- it is () -/
def etB (K : PySem.W.Frag) (a : Addr) : Bool := match K.lookup a with
  | some ⟨.type c, _, .seq its _, _⟩ => decide (c = "tuple") && decide (its.toList = [])
  | _ => false
theorem etB_ok {K : PySem.W.Frag} {a : Addr} (h : etB K a = true) (H : Hp) (Lv : Addr → Prop) : FzT K H Lv a [] := by
  unfold etB at h
  cases q : K.lookup a with
  | none => rw [q] at h; exact nomatch h
  | some o =>
    obtain ⟨oc, od, dt, osl⟩ := o
    rw [q] at h
    cases oc with
    | type c =>
      cases dt with
      | seq its n =>
        have h' : (decide (c = "tuple") && decide (its.toList = [])) = true := h
        obtain ⟨h1, h2⟩ := Bool.and_eq_true_iff.mp h'
        have h2 := of_decide_eq_true h2
        refine .inr ⟨rfl, _, its, n, q, congrArg Value.type (of_decide_eq_true h1), rfl, ?_, by rw [h2]; exact .nil⟩
        rw [← Array.length_toList, h2]
        exact Nat.zero_le _
      | _ => exact nomatch h
    | _ => cases dt <;> exact nomatch h
def owE (es : List ((Str × Option Str) × Str)) (K : PySem.W.Frag) : Bool := es.all fun p => etB K (kwdAt p.1 p.2 K)
theorem owE_ok {es : List ((Str × Option Str) × Str)} {K : PySem.W.Frag} (h : owE es K = true) {p : (Str × Option Str) × Str} (hp : p ∈ es) (H : Hp) (Lv : Addr → Prop) : FzT K H Lv (kwdAt p.1 p.2 K) [] := etB_ok (List.all_eq_true.mp h p hp) H Lv
section
variable {K : PySem.W.Frag} {mg : Str → Option Value} {x qual : Str} {params : Arguments} {body : List Stmt} {scope : Scope} {kws : List (Str × V)} {f : Addr} {fd : FuncData} {ps : List Str}
/-- the parameters by idx, behind them the lacking keyword-only ones -/
abbrev gDfl (idx : List (Bool × Nat)) (md : List D) : List D → List D → List D := fun ds es => gPerm idx ds es ++ md
theorem BnM.dfl (F : FunD K x qual params body scope [] kws f fd) (n : Nat) (ks : List Str) (idx : List (Bool × Nat)) (md : List D) (hk : kws ≠ []) (hmd : ∀ (H : Hp) (ρ : Lc) (μ : Mem), RLm K mg H ρ μ (kws.map (·.2)) md)
    (h : ∀ (D : Addr) (doc pm : Value) (an : Option Addr) (cdv ct : Value) (us mv ws : List Value), us.length = n → mv.length = kws.length → ws.length = ks.length →
      KwChain D ((kws.map (·.1)).zip mv) (bindArgs (PySem.W.fnOf x qual params body scope .none (.ref D) doc pm an cdv ct) ⟨us, ks.zip ws⟩) (ps.zip (gPerm idx us ws ++ mv))) : BnM K mg fd ps n ks (gDfl idx md) := by
  obtain ⟨mv, kb⟩ := F.kbinds0 n ks kws (fun us mv ws => gPerm idx us ws ++ mv) hk (fun _ h => h) (fun r1 r2 r3 => (gPerm_vals idx r1 r3).append r2) h
  refine ⟨_, _, kb, fun H ρ μ vs zs ds es r1 r2 _ _ => ?_⟩
  exact RL.append (gPerm_rl idx r1 r2) (hmd H ρ μ)
theorem md_tup {a : Addr} (h : ∀ H Lv, FzT K H Lv a []) (H : Hp) (ρ : Lc) (μ : Mem) : RLm K mg H ρ μ [V.ref a] [.tup []] := .cons (.tup (h H _) .nil) .nil
end
end CL

namespace CL
open PySem L2 PySem.Spec PyProof.Rows
/-- what becomes of a new dict of plain keys -/
def NewKd (k : List (D × D) → M D) : Prop := ∀ (K : PySem.W.Frag) (mg : Str → Option Value) (H : Hp) (ρ : Lc) (μ : Mem) (kvs : List (Key × V)) (ds : List D) (Q : VK) (E : XK), Wd K mg H ρ μ → RLm K mg H ρ μ (kvs.map (·.2)) ds →
  Post K mg (k ((kvs.map fun p => kD p.1).zip ds) μ) H ρ μ Q E → ∀ a, H a = none → Q (.ref a) (upd H a (.dK kvs))
theorem newKd_fz : NewKd (kDFz false) := fun K mg H ρ μ kvs ds Q E w r p a ha =>
  p (.ref a) _ ρ (Exm.new w ha) (w.new ha) (.dK (.inl upd_same) (w.fresh ha) rfl (r.mono (Exx.new ha)) rfl)
theorem newKd_ce : NewKd (kDCe false) := fun K mg H ρ μ kvs ds Q E w r p a ha =>
  p (.ref a) _ (ρ.push a) (Exm.newC w ha) (w.newC ha ⟨kvs, ds, upd_same, r.mono (Exx.newC w ha), rfl⟩) (Rm.newC w)
def putPs (acc : List (D × D)) (ps : List (D × D)) : List (D × D) := ps.foldl (fun a p => dput a p.1 p.2) acc
section
variable {K : PySem.W.Frag} {mg : Str → Option Value} {H : Hp} {Lv : Addr → Prop} {cs : List Addr}
theorem merge_rel : ∀ (ks : List Key) (ws : List V) (ys : List D) (kvs : List (Key × V)) (ds : List D), RL K mg H Lv cs ws ys → RL K mg H Lv cs (kvs.map (·.2)) ds →
    ∃ ds', RL K mg H Lv cs ((mergeK kvs (ks.zip ws)).map (·.2)) ds' ∧ putPs ((kvs.map fun p => kD p.1).zip ds) ((ks.map kD).zip ys) = ((mergeK kvs (ks.zip ws)).map fun p => kD p.1).zip ds'
  | [], _, _, kvs, ds, _, r => ⟨ds, r, rfl⟩
  | k :: ks, _, _, kvs, ds, .nil, r => ⟨ds, r, rfl⟩
  | k :: ks, _, _, kvs, ds, .cons (v := v) (vs := vs) (d := d) (ds := ys) rv rl, r => by
    obtain ⟨ds1, r1, e1⟩ := dput_rel (f := kD) (fun _ _ => kD_inj) rv r k
    obtain ⟨ds2, r2, e2⟩ := merge_rel ks vs ys (putK kvs k v) ds1 rl r1
    refine ⟨ds2, r2, ?_⟩
    show putPs (dput ((kvs.map fun p => kD p.1).zip ds) (kD k) d) ((ks.map kD).zip ys) = _
    rw [e1]
    exact e2
end
theorem paired_zip : ∀ (ks : List Key) {ws : List V} {us : List Value}, Vals ws us → KV (ks.zip ws) (ks.zip us)
  | [], _, _, _ => .nil
  | _ :: _, _, _, .nil => .nil
  | k :: ks, _, _, .cons r t => .cons ⟨rfl, r⟩ (paired_zip ks t)
def dZipD (k : List (D × D) → M D) : List D → M D := fun ds μ => match ds with
  | [a, b] => (match lstOf μ a with
    | some xs => (match lstOf μ b with
      | some ys => (match toKs xs with
        | some ks => if ks.length ≤ lim then k (putPs [] (xs.zip ys)) μ else .no
        | none => .no)
      | none => .no)
    | none => .no)
  | _ => .no
section
variable {X : Cx} {W : WX} {e e2 : Expr} {ml : ML} {p p2 pos pos2 : Pos}
theorem se_dictZip {k : List (D × D) → M D} (hk : NewKd k) (hc : X.calm = true) (hm : X.mg "dict" = none) (hm2 : X.mg "zip" = none) (ha : SA X W [e, e2] ml) (hg : Gl X "dict" := by rfl) (hg2 : Gl X "zip" := by rfl)
    (hs : starEach [e, e2] X.env = (false, eval e X.env) :: starEach [e2] X.env := by rfl) (hpl : (backTo pos2 (starEach [e2] X.env)).any (·.1) = false := by rfl)
    (hs2 : starEach [.Call (.Name "zip" p2) [e, e2] [] pos2] X.env = (false, eval (.Call (.Name "zip" p2) [e, e2] [] pos2) X.env) :: starEach [] X.env := by rfl) (hpl2 : (backTo pos (starEach [] X.env)).any (·.1) = false := by rfl) :
    SE X W (.Call (.Name "dict" p) [.Call (.Name "zip" p2) [e, e2] [] pos2] [] pos) (mCall (dZipD k) ml) := by
  refine ⟨fun pins s σ H Q I h => ?_⟩
  obtain ⟨ρ, μ, env, w, re, pp⟩ := h
  refine wpAny_Call_Name_kw (ld_blt I hg hm boot_dict ?_ (by decide) (by decide))
  refine PyProof.Rows.callWith_type1 ?_ hs2 hpl2
  rw [hs2]
  show wpAny _ _ (spliced ((false, eval (.Call (.Name "zip" p2) [e, e2] [] pos2) X.env) :: backTo pos (starEach [] X.env))) _ _ s
  refine Calls.spliced_cons (wpAny_Call_Name_kw (ld_blt I hg2 hm2 PyProof.Rows.boot_zip ?_ (by decide) (by decide)))
  have hp := ha.run pos2 pins s σ H (fun vs H1 => ∃ ds ρ1 μ1, Exm H ρ μ H1 ρ1 μ1 ∧ Wd X.K X.mg H1 ρ1 μ1 ∧ RLm X.K X.mg H1 ρ1 μ1 vs ds ∧ Post X.K X.mg (dZipD k ds μ1) H1 ρ1 μ1 Q (fun c od H' => W c od σ H')) I
    ⟨ρ, μ, env, w, re, PostL.imp (postL_bind pp) (fun v H1 ⟨d, ρ1, μ1, e1, w1, r1, p1⟩ => ⟨d, ρ1, μ1, e1, w1, r1, p1⟩) fun _ _ _ z => z⟩
  refine PyProof.Rows.callWith_type1 (thn hp fun us s1 hh => ?_) hs hpl
  obtain ⟨vs, H1, I1, rv, ds, ρ1, μ1, e1, w1, r1, p1⟩ := hh
  cases r1 with
  | nil => exact False.elim p1
  | cons ra t =>
    cases t with
    | nil => exact False.elim p1
    | cons rb t =>
      cases t with
      | cons _ _ => exact False.elim p1
      | nil =>
        rename_i va a vb b
        unfold dZipD at p1
        dsimp only at p1
        cases hx : lstOf μ1 a with
        | none => rw [hx] at p1; exact False.elim p1
        | some xs =>
          rw [hx] at p1
          dsimp only at p1
          cases hy : lstOf μ1 b with
          | none => rw [hy] at p1; exact False.elim p1
          | some ys =>
            rw [hy] at p1
            dsimp only at p1
            cases hz : toKs xs with
            | none => rw [hz] at p1; exact False.elim p1
            | some ks =>
              rw [hz] at p1
              dsimp only at p1
              by_cases hl : ks.length ≤ lim
              · rw [if_pos hl] at p1
                obtain ⟨l1, vs1, rfl, q1, rl1⟩ := lstOf_ok w1 ra hx
                obtain ⟨l2, vs2, rfl, q2, rl2⟩ := lstOf_ok w1 rb hy
                have exs := toKs_eq hz
                subst exs
                have evs : vs1 = ks.map kV := RL.keys rl1
                subst evs
                obtain ⟨u1, u2, rfl, ru1, ru2⟩ := rv.two
                cases (show u1 = Value.ref l1 from ru1)
                cases (show u2 = Value.ref l2 from ru2)
                obtain ⟨its1, rv1, pl1, _⟩ := I1.list (.inl q1)
                obtain ⟨its2, rv2, pl2, _⟩ := I1.list (.inl q2)
                refine call_zip_2 pl1.isList pl2.isList fun h' hz' hTI hTO hi1 hi2 hsz hkp => Calls.spliced_nil ?_
                have I2 : Inv X pins σ H1 { s1 with heap := h' } := I1.kept (t' := s1.toks) hkp
                have DZ := PySem.W.ktu_apart s1.heap.objs.size l1 l2 pl1.lt pl2.lt
                have il1 : h'.IsList l1 its1.toArray := pl1.isList.at fun o e => hkp _ o e
                have il2 : h'.IsList l2 its2.toArray := pl2.isList.at fun o e => hkp _ o e
                have len1 := rv1.length
                rw [List.length_map] at len1
                refine call_dict_pairs (s := { s1 with heap := h' }) (knd := mixKind X.prog X.w) (kvs := ks.zip its2) (PairArg.zip (s1.heap.objs.size + 4) (s1.heap.objs.size + 2) (s1.heap.objs.size + 3) s1.heap.objs.size (s1.heap.objs.size + 1) l1 l2 DZ its1.toArray its2.toArray)
                  (I1.ok.hd hc) ⟨hz', hTI, ⟨_, _, hTO⟩, hi1, hi2, il1, il2⟩ ⟨?_, ?_⟩ ?_ fun h'' tk hd' hk' => ?_
                · rw [List.length_zip, len1]
                  simp
                · intro i key v hr
                  obtain ⟨hi, hj⟩ := hr
                  have hi : its1[i]? = some key := by simpa using hi
                  have hj : its2[i]? = some v := by simpa using hj
                  have li : i < ks.length := by
                    rw [len1]
                    exact (List.getElem?_eq_some_iff.mp hi).1
                  have ek : ks[i]? = some ks[i] := List.getElem?_eq_getElem li
                  obtain ⟨w', hw, rk⟩ := rv1.get (show (ks.map kV)[i]? = some (kV ks[i]) by rw [List.getElem?_map, ek]; rfl)
                  have := Option.some.inj (hw.symm.trans hi)
                  subst this
                  exact ⟨ks[i], by rw [List.getElem?_zip_eq_some]; exact ⟨ek, hj⟩, kV_is rk⟩
                · have : min its1.toArray.size its2.toArray.size ≤ its1.length := by
                    rw [List.size_toArray]
                    exact Nat.min_le_left _ _
                  rw [← len1] at this
                  exact Nat.le_trans this (lim_line hl)
                · have hdl : s1.heap.objs.size ≤ h'.objs.size := by omega
                  have kk : ∀ b o, s1.heap.get? b = some o → h''.get? b = some o := fun b o e => hk' b o (fun z => by
                    have lt := Heap.lt_size e
                    simp only [List.mem_cons, List.not_mem_nil, or_false] at z
                    rcases z with z | z | z | z <;> (rw [z] at lt; first | exact absurd lt (Nat.not_lt.mpr (Nat.le_add_right _ _)) | exact absurd lt (Nat.lt_irrefl _))) (hkp b o e)
                  have hdm : (h'.objs.size == sysModules) = false := beq_eq_false_iff_ne.mpr (Nat.ne_of_gt I2.big)
                  obtain ⟨ds', rr, ee⟩ := merge_rel (K := X.K) (mg := X.mg) ks vs2 ys [] [] rl2 .nil
                  have hlen : (mergeK [] (ks.zip vs2)).length ≤ sizeLine := by
                    refine Nat.le_trans (length_mergeK (ks.zip vs2) []) ?_
                    rw [List.length_nil, Nat.zero_add, List.length_zip]
                    exact Nat.le_trans (Nat.min_le_left _ _) (lim_line hl)
                  have fresh : H1 h'.objs.size = none := I2.hok.fresh (Nat.le_refl _)
                  refine ⟨.ref h'.objs.size, upd H1 h'.objs.size (.dK (mergeK [] (ks.zip vs2))), I1.laid (t' := tk) kk hdl (show ObjOk X.prog X.w _ _ _ (.dK (mergeK [] (ks.zip vs2))) from ⟨hlen, hdm, merged [] (ks.zip its2), KV.merge (paired_zip ks rv2) .nil, hd'⟩), rfl, ?_⟩
                  have ee' : putPs [] ((ks.map kD).zip ys) = ((mergeK [] (ks.zip vs2)).map fun p => kD p.1).zip ds' := ee
                  rw [ee'] at p1
                  exact hk X.K X.mg H1 ρ1 μ1 _ ds' Q _ w1 rr p1 h'.objs.size fresh
              · rw [if_neg hl] at p1
                exact False.elim p1
end
end CL

namespace CL
open PySem L2 PySem.Spec PyProof.Rows
section
variable {X : Cx} {W : WX}
theorem s_setDc {i n : Nat} {y : PySem.Str} {py spos : Pos} {t : Bool} {pos : Pos} {kx vx tg iter : Expr} {ifs : List Expr} {scope : Scope} {own : List (PySem.Str × Nat)} {mi : MI} {tm : Tgt} {tt : MB} {mk mv : ME} {k : List (D × D) → M D} (hr : RmG n X.A) (hk : DNew X.K X.mg t k)
    (hc : X.calm = true) (hN : X.N.Nodup) (hi : SI X W tg iter mi) (ok : BlkOk X.N X.env.scope scope own) (ht : ∀ i ∈ tm.slots, i ∈ own.map (·.2))
    (hg : ∀ (s : Shared) (H : Hp) (C : Addr) (cl : List (PySem.Str × Addr)) (fp : List Addr), SG (Bl X s H scope cl C fp) tg tm) (hts : ∀ (s : Shared) (H : Hp) (C : Addr) (cl : List (PySem.Str × Addr)) (fp : List Addr), STs (Bl X s H scope cl C fp) W0 ifs tt)
    (hke : ∀ (s : Shared) (H : Hp) (C : Addr) (cl : List (PySem.Str × Addr)) (fp : List Addr), SE (Bl X s H scope cl C fp) W0 kx mk) (hve : ∀ (s : Shared) (H : Hp) (C : Addr) (cl : List (PySem.Str × Addr)) (fp : List Addr), SE (Bl X s H scope cl C fp) W0 vx mv)
    (hsw : swapsWith (.DictComp kx vx [⟨tg, iter, ifs, 0⟩] scope pos) (some (.Name y py)) spos.line X.env = pure true) (hy : X.N[i]? = some y := by rfl) (hyl : X.env.scope.names.lookup y = some .local := by rfl) (hs : ∀ x, foldedSetIterable iter X.env x = pure x := by intro _; rfl) :
    SS X W (.Assign [.Name y py] (.DictComp kx vx [⟨tg, iter, ifs, 0⟩] scope pos) spos) (sAsg (mDictC t k mi tm tt mk mv (own.map (·.2))) (tgName i)) := by
  have hu : X.A.units + 1 < cLine := by have := hr.un; omega
  refine ⟨fun pins s σ H Dn I h => ?_⟩
  obtain ⟨ρ, μ, env, w, re, p⟩ := h
  have h' := dictC_in (Q := fun v H1 => gName i v σ H1 Dn.nx) hk ht (W := W) ⟨ρ, μ, env, w, re, Post.imp (post_st re p) (fun v H1 ⟨d, ρ1, μ1, e1, w1, re1, r1, p1⟩ => p1 _ H1 ρ1 Exm.refl w1 (re1.set i r1)) fun _ _ _ z => z⟩
  rw [exec_Assign_Name_used _ _ _ _ hsw]
  refine wpAny_bind (wpAny_standAt (wpAny_bind ?_))
  have eu : evalThenUse (.DictComp kx vx [⟨tg, iter, ifs, 0⟩] scope pos) X.env (assign (.Name y py) X.env) = (do let _ ← comprehension (.DictComp kx vx [⟨tg, iter, ifs, 0⟩] scope pos) scope X.env (firstIterPos [⟨tg, iter, ifs, 0⟩] pos) newDict false (eval iter X.env) (some (assign (.Name y py) X.env)); pure ()) := rfl
  rw [eu]
  refine wpAny_bind (thn (ckind_core (Qf := fun _ s' => SP X pins Dn .next s') (ck_dict t) hc hN I hi ok hg hts (fun s H C cl fp pins s' σ' H' D Nx I q => bl_dict hu s H C cl fp (hke s H C cl fp) (hve s H C cl fp) pins s' σ' H' D Nx I q) hs h' fun L C s' m H' I' q hn f => ?_) fun _ s' hq => wpAny_pure (wpAny_pure hq))
  show wpAny _ _ (assign (.Name y py) X.env (.ref L)) _ _ _
  refine wpAny_assign_Name (store_ok2 (v := V.ref L) I' hN hy (.inl hyl) rfl (fun s2 I2 ⟨a, sb, ha⟩ => ?_) (.inr hyl))
  obtain ⟨f0, f1, f2, f3, f4, f5⟩ := f
  have nC : C ≠ a := by
    rcases ha with z | z
    · exact z ▸ f1
    · exact fun e => f4 y a z e.symm
  exact ⟨m, hn.sameBut sb nC, fun h3 sb3 => ⟨_, H', I2.turned (t' := s2.toks) (fun b o hb e => (sb3.2 b hb).trans e) f0 f1 f3 f4 f5, q⟩⟩
theorem s_setLc2 {i : Nat} {y : PySem.Str} {py spos : Pos} {elt tg iter tg1 iter1 : Expr} {ifs ifs1 : List Expr} {scope : Scope} {own : List (PySem.Str × Nat)} {vs1 : List Nat} {pos : Pos} {mi mi1 : MI} {t t1 : Tgt} {tt tt1 : MB} {te : ME} {k : List D → M D} (hk : KNew X.K X.mg k) (hc : X.calm = true) (hN : X.N.Nodup) (hi : SI X W tg iter mi) (ok : BlkOk X.N X.env.scope scope own) (hv : ∀ i ∈ vs1, i ∈ own.map (·.2))
    (ht : ∀ i ∈ t.slots, i ∈ own.map (·.2)) (ht1 : ∀ i ∈ t1.slots, i ∈ vs1)
    (hg : ∀ (s : Shared) (H : Hp) (C : Addr) (cl : List (PySem.Str × Addr)) (fp : List Addr), SG (Bl X s H scope cl C fp) tg t) (hts : ∀ (s : Shared) (H : Hp) (C : Addr) (cl : List (PySem.Str × Addr)) (fp : List Addr), STs (Bl X s H scope cl C fp) W0 ifs tt)
    (hi1 : ∀ (s : Shared) (H : Hp) (C : Addr) (cl : List (PySem.Str × Addr)) (fp : List Addr), SI (Bl X s H scope cl C fp) W0 tg1 iter1 mi1)
    (hg1 : ∀ (s : Shared) (H : Hp) (C : Addr) (cl : List (PySem.Str × Addr)) (fp : List Addr), SG (Bl X s H scope cl C fp) tg1 t1) (hts1 : ∀ (s : Shared) (H : Hp) (C : Addr) (cl : List (PySem.Str × Addr)) (fp : List Addr), STs (Bl X s H scope cl C fp) W0 ifs1 tt1)
    (he : ∀ (s : Shared) (H : Hp) (C : Addr) (cl : List (PySem.Str × Addr)) (fp : List Addr), SE (Bl X s H scope cl C fp) W0 elt te)
    (hsw : swapsWith (.ListComp elt [⟨tg, iter, ifs, 0⟩, ⟨tg1, iter1, ifs1, 0⟩] scope pos) (some (.Name y py)) spos.line X.env = pure true) (hy : X.N[i]? = some y := by rfl) (hyl : X.env.scope.names.lookup y = some .local := by rfl) (hs : ∀ x, foldedSetIterable iter X.env x = pure x := by intro _; rfl) (hs1 : ∀ env x, foldedSetIterable iter1 env x = pure x := by intro _ _; rfl) :
    SS X W (.Assign [.Name y py] (.ListComp elt [⟨tg, iter, ifs, 0⟩, ⟨tg1, iter1, ifs1, 0⟩] scope pos) spos) (sAsg (mComp2 k mi t tt mi1 t1 tt1 te (own.map (·.2)) vs1) (tgName i)) := by
  refine PS.imp (ps_setLc2 (g := gM X.K X.mg t) (tt := tMB X.K X.mg W0 tt) (g1 := gM X.K X.mg t1) (tt1 := tMB X.K X.mg W0 tt1) (wi1 := tMI X.K X.mg W0 mi1) (te := tM X.K X.mg W0 te) hc hN hy hyl hsw hi ok hv hg hts hi1 hg1 hts1 he hs hs1) fun Dn σ H ⟨ρ, μ, env, w, re, p⟩ => ?_
  refine comp2_in hk ht ht1 (W := W) ⟨ρ, μ, env, w, re, Post.imp (post_st re p) (fun v H1 ⟨d, ρ1, μ1, e1, w1, re1, r1, p1⟩ => p1 _ H1 ρ1 Exm.refl w1 (re1.set i r1)) fun _ _ _ z => z⟩
end
end CL

namespace PU
open PySem CL
/-- what is known of the memory, and stays known when it grows -/
structure Kn where
  p : Mem → Prop
  ext : ∀ {μ : Mem} (ν : Mem), p μ → p (μ ++ ν)
def top : Kn := ⟨fun _ => True, fun _ _ => trivial⟩
/-- it answers a; the memory only grows -/
def Pu {α : Type} (S : Kn) (m : M α) (a : α) : Prop := ∀ μ, S.p μ → ∃ ν, m μ = .ok a (μ ++ ν)
section
variable {S : Kn} {α β : Type} {env env' env1 env2 : CL.Env} {x y z d : D} {a b c e o : ME} {ml mk : ML} {g : D → D → M D}
theorem Pu.rfl_ {m : M α} {a : α} (h : ∀ μ, m μ = .ok a μ) : Pu S m a := fun μ _ => ⟨[], by rw [h, List.append_nil]⟩
theorem Pu.of {m : M α} {a : α} (h : ∀ μ, S.p μ → m μ = .ok a μ) : Pu S m a := fun μ hp => ⟨[], by rw [h μ hp, List.append_nil]⟩
theorem Pu.top {m : M α} {a : α} (h : Pu PU.top m a) : Pu S m a := fun μ _ => h μ trivial
theorem Pu.cast {m : M α} {a b : α} (h : Pu S m a) (e : a = b) : Pu S m b := e ▸ h
theorem Pu.bind {m : M α} {k : α → M β} {a : α} {b : β} (h : Pu S m a) (h2 : Pu S (k a) b) : Pu S (fun μ => (m μ).bind k) b := fun μ hp => by
  obtain ⟨ν, e⟩ := h μ hp
  obtain ⟨ν2, e2⟩ := h2 (μ ++ ν) (S.ext ν hp)
  refine ⟨ν ++ ν2, ?_⟩
  show (m μ).bind k = _
  rw [e, ← List.append_assoc]
  exact e2
theorem Pu.bindN {m : M α} {k : α → M β} {a : α} {b : β} (h : Pu S m a) (h2 : Pu S (k a) b) : Pu S (fun μ => (m μ).bindN k) b := fun μ hp => by
  obtain ⟨ν, e⟩ := h μ hp
  obtain ⟨ν2, e2⟩ := h2 (μ ++ ν) (S.ext ν hp)
  refine ⟨ν ++ ν2, ?_⟩
  show (m μ).bindN k = _
  rw [e, ← List.append_assoc]
  exact e2
theorem pOk {a : α} : Pu S (fun μ => Rs.ok a μ) a := .rfl_ fun _ => rfl
theorem pVar {i : Nat} (h : env[i]? = some (some d)) : Pu S (mVar i env) d := .rfl_ fun μ => by
  show (match env[i]? with
    | some (some d) => Rs.ok d μ
    | _ => .no) = _
  rw [h]
theorem pC : Pu S (mC d env) d := .rfl_ fun _ => rfl
theorem pBin (ha : Pu S (a env) x) (hb : Pu S (b env) y) (hg : Pu S (g x y) z) : Pu S (mBin g a b env) z := ha.bind (k := fun x μ1 => (b env μ1).bind fun y => g x y) (hb.bind hg)
theorem pUn {g : D → M D} (ha : Pu S (a env) x) (hg : Pu S (g x) z) : Pu S (mUn g a env) z := ha.bind hg
theorem pNil : Pu S (mNil env) [] := pOk
theorem pCons {xs : List D} (ha : Pu S (a env) x) (hr : Pu S (ml env) xs) : Pu S (mCons a ml env) (x :: xs) := ha.bind (k := fun x μ1 => (ml env μ1).bind fun xs μ2 => .ok (x :: xs) μ2) (hr.bind pOk)
theorem pCall {f : List D → M D} {xs : List D} (ha : Pu S (ml env) xs) (hf : Pu S (f xs) z) : Pu S (mCall f ml env) z := ha.bind hf
theorem pTup {xs : List D} (ha : Pu S (ml env) xs) (hl : xs.length ≤ lim := by exact Nat.le_trans (show _ ≤ 1000 by simp) (by decide)) : Pu S (mTup ml env) (.tup xs) := ha.bind (.rfl_ fun μ => if_pos hl)
theorem pLst {xs : List D} (ha : Pu S (ml env) xs) (hl : xs.length ≤ lim := by exact Nat.le_trans (show _ ≤ 1000 by simp) (by decide)) : Pu S (mLst ml env) (.lst xs) := ha.bind (.rfl_ fun μ => if_pos hl)
theorem pIf {t : Bool} {c : MB} (hc : Pu S (c env) t) (h1 : t = true → Pu S (a env) x) (h2 : t = false → Pu S (b env) y) : Pu S (mIf c a b env) (if t = true then x else y) := hc.bind (k := fun t μ1 => if t = true then a env μ1 else b env μ1) (by
  cases t with
  | true => exact h1 rfl
  | false => exact h2 rfl)
theorem pVal {t : Bool} (h : Pu S (a env) (.bl t)) : Pu S (bVal a env) t := h.bind (.rfl_ fun _ => rfl)
theorem pYes : Pu S (bYes env) true := pOk
theorem pbNot {t : Bool} {c : MB} (h : Pu S (c env) t) : Pu S (bNot c env) (!t) := h.bind pOk
theorem pbAnd {s t : Bool} {c c' : MB} (h : Pu S (c env) s) (h2 : s = true → Pu S (c' env) t) : Pu S (bAnd c c' env) (s && t) := h.bind (k := fun t μ1 => if t = true then c' env μ1 else .ok false μ1) (by
  cases s with
  | true => exact h2 rfl
  | false => exact pOk)
theorem pbOr {s t : Bool} {c c' : MB} (h : Pu S (c env) s) (h2 : s = false → Pu S (c' env) t) : Pu S (bOr c c' env) (s || t) := h.bind (k := fun t μ1 => if t = true then .ok true μ1 else c' env μ1) (by
  cases s with
  | false => exact h2 rfl
  | true => exact pOk)
theorem pNot {t : Bool} (h : Pu S (a env) (.bl t)) : Pu S (mNot a env) (.bl (!t)) := h.bind (.rfl_ fun _ => rfl)
theorem Pu.mk2 {m : M α} {k : α → M β} {r : M β} {a : α} {b : β} (h : Pu S m a) (h2 : Pu S (k a) b) (e : ∀ μ μ', m μ = .ok a μ' → r μ = k a μ') : Pu S r b := fun μ hp => by
  obtain ⟨ν, e1⟩ := h μ hp
  obtain ⟨ν2, e2⟩ := h2 (μ ++ ν) (S.ext ν hp)
  exact ⟨ν ++ ν2, by rw [e μ _ e1, e2, List.append_assoc]⟩
theorem pAnd {s t : Bool} (h : Pu S (a env) (.bl s)) (h2 : s = true → Pu S (b env) (.bl t)) : Pu S (mAnd a b env) (.bl (s && t)) := by
  cases s with
  | true => exact h.mk2 (k := fun _ => b env) (h2 rfl) fun μ μ' e => by unfold mAnd; rw [e]; rfl
  | false => exact h.mk2 (k := fun _ μ => Rs.ok (D.bl false) μ) pOk fun μ μ' e => by unfold mAnd; rw [e]; rfl
theorem pOr {s t : Bool} (h : Pu S (a env) (.bl s)) (h2 : s = false → Pu S (b env) (.bl t)) : Pu S (mOr a b env) (.bl (s || t)) := by
  cases s with
  | false => exact h.mk2 (k := fun _ => b env) (h2 rfl) fun μ μ' e => by unfold mOr; rw [e]; rfl
  | true => exact h.mk2 (k := fun _ μ => Rs.ok (D.bl true) μ) pOk fun μ μ' e => by unfold mOr; rw [e]; rfl
theorem pChain {g' : D → D → M D} {u : D} {s t : Bool} (ha : Pu S (a env) x) (hb : Pu S (b env) y) (hg : Pu S (g x y) (.bl s)) (h' : s = true → Pu S (c env) u ∧ Pu S (g' y u) (.bl t)) : Pu S (mChain g g' a b c env) (.bl (s && t)) := fun μ hp => by
  obtain ⟨ν, e1⟩ := ha μ hp
  have p1 := S.ext ν hp
  obtain ⟨ν2, e2⟩ := hb _ p1
  have p2 := S.ext ν2 p1
  obtain ⟨ν3, e3⟩ := hg _ p2
  have p3 := S.ext ν3 p2
  cases s with
  | false => exact ⟨ν ++ ν2 ++ ν3, by
      unfold mChain
      rw [e1]
      show ((b env (μ ++ ν)).bind fun y m2 => _) = _
      rw [e2]
      show ((g x y (μ ++ ν ++ ν2)).bind fun z m3 => _) = _
      rw [e3, ← List.append_assoc, ← List.append_assoc]
      rfl⟩
  | true =>
    obtain ⟨hc, hg'⟩ := h' rfl
    obtain ⟨ν4, e4⟩ := hc _ p3
    obtain ⟨ν5, e5⟩ := hg' _ (S.ext ν4 p3)
    refine ⟨ν ++ ν2 ++ ν3 ++ ν4 ++ ν5, ?_⟩
    unfold mChain
    rw [e1]
    show ((b env (μ ++ ν)).bind fun y m2 => _) = _
    rw [e2]
    show ((g x y (μ ++ ν ++ ν2)).bind fun z m3 => _) = _
    rw [e3]
    show ((c env (μ ++ ν ++ ν2 ++ ν3)).bind fun u => _) = _
    rw [e4]
    show g' y u (μ ++ ν ++ ν2 ++ ν3 ++ ν4) = _
    rw [e5]
    simp only [List.append_assoc, Bool.true_and]
theorem pCallG {n l : Nat} {gD : List D → List D → List D} {f : List D → M D} {ds es : List D} (h1 : Pu S (ml env) ds) (h2 : Pu S (mk env) es) (hf : Pu S (f (gD ds es)) z) (hl : ds.length = n := by rfl) (hl2 : es.length = l := by rfl) : Pu S (mCallG n l gD f ml mk env) z :=
  h1.bind (k := fun ds m1 => (mk env m1).bind fun es => withLen n l gD f ds es) (h2.bind (k := fun es => withLen n l gD f ds es) fun μ hp => by
    unfold withLen
    rw [if_pos ⟨hl, hl2⟩]
    exact hf μ hp)
theorem pMth {n l : Nat} {gD : List D → List D → List D} {f : List D → M D} {ds es : List D} {cl m : Str} {fds : List (Str × D)} (ho : Pu S (o env) x) (hi : ∀ μ, S.p μ → insOf μ x = some (cl, fds)) (hn : fds.lookup m = none) (h1 : Pu S (ml env) ds) (h2 : Pu S (mk env) es) (hf : Pu S (f (gD (x :: ds) es)) z) (hl : ds.length = n := by rfl) (hl2 : es.length = l := by rfl) :
    Pu S (mMthG cl m n l gD f o ml mk env) z := fun μ hp => by
  obtain ⟨ν, e1⟩ := ho μ hp
  have p1 := S.ext ν hp
  obtain ⟨ν2, e2⟩ := h1 _ p1
  have p2 := S.ext ν2 p1
  obtain ⟨ν3, e3⟩ := h2 _ p2
  obtain ⟨ν4, e4⟩ := hf _ (S.ext ν3 p2)
  refine ⟨ν ++ ν2 ++ ν3 ++ ν4, ?_⟩
  unfold mMthG
  rw [e1]
  show (match insOf (μ ++ ν) x with
    | some (c', fds) => if c' = cl ∧ fds.lookup m = none then mArgs ml mk (fun ds es => withLen (n + 1) l gD f (x :: ds) es) env (μ ++ ν) else .no
    | none => Rs.no) = _
  rw [hi _ p1]
  dsimp only
  rw [if_pos ⟨rfl, hn⟩]
  unfold mArgs
  rw [e2]
  show ((mk env (μ ++ ν ++ ν2)).bind fun es => _) = _
  rw [e3]
  show withLen (n + 1) l gD f (x :: ds) es (μ ++ ν ++ ν2 ++ ν3) = _
  unfold withLen
  rw [if_pos ⟨by rw [List.length_cons, hl], hl2⟩, e4]
  simp only [List.append_assoc]
theorem pFld {cs : List Str} {f cl : Str} {fds : List (Str × D)} (hi : ∀ μ, S.p μ → insOf μ x = some (cl, fds)) (hc : cs.contains cl = true) (hf : fds.lookup f = some y) : Pu S (dFld cs f x) y := .of fun μ hp => by
  unfold dFld
  rw [hi μ hp]
  dsimp only
  rw [if_pos hc, hf]
theorem pOwn {neg t : Bool} {cl : Str} {f : List D → M D} {f1 f2 : List (Str × D)} (h1 : ∀ μ, S.p μ → insOf μ x = some (cl, f1)) (h2 : ∀ μ, S.p μ → insOf μ y = some (cl, f2)) (h : Pu S (f [x, y]) (.bl t)) : Pu S (dOwn neg cl f x y) (.bl (t ^^ neg)) := fun μ hp => by
  obtain ⟨ν, e⟩ := h μ hp
  refine ⟨ν, ?_⟩
  unfold dOwn
  rw [h1 μ hp]
  dsimp only
  rw [h2 μ hp]
  dsimp only
  rw [if_pos ⟨rfl, rfl⟩, e]
  rfl
theorem pLenO {i : Int} {cl : Str} {f : List D → M D} {f1 : List (Str × D)} (ho : Pu S (o env) x) (h1 : ∀ μ, S.p μ → insOf μ x = some (cl, f1)) (h : Pu S (f [x]) (.int i)) (hi : 0 ≤ i ∧ i < 2 ^ 63) : Pu S (mLenO cl f o env) (.int i) := fun μ hp => by
  obtain ⟨ν, e1⟩ := ho μ hp
  have p1 := S.ext ν hp
  obtain ⟨ν2, e2⟩ := h _ p1
  refine ⟨ν ++ ν2, ?_⟩
  unfold mLenO
  rw [e1]
  show (match insOf (μ ++ ν) x with
    | some (c1, _) => if c1 = cl then (f [x] (μ ++ ν)).bind _ else .no
    | none => Rs.no) = _
  rw [h1 _ p1]
  dsimp only
  rw [if_pos rfl, e2]
  show (if 0 ≤ i ∧ i < 2 ^ 63 then Rs.ok (D.int i) (μ ++ ν ++ ν2) else .no) = _
  rw [if_pos hi, List.append_assoc]
def Rt (S : Kn) (s : MS) (env : CL.Env) (d : D) : Prop := ∀ μ, S.p μ → ∃ ν, s env μ = .rt d (μ ++ ν)
def Nx (S : Kn) (s : MS) (env env' : CL.Env) : Prop := ∀ μ, S.p μ → ∃ ν, s env μ = .nx env' (μ ++ ν)
variable {s t : MS}
theorem rRet (h : Pu S (a env) d) : Rt S (sRet a) env d := fun μ hp => by
  obtain ⟨ν, e⟩ := h μ hp
  exact ⟨ν, by unfold sRet; rw [e]; rfl⟩
theorem nNx : Nx S sNx env env := fun μ _ => ⟨[], by rw [List.append_nil]; rfl⟩
theorem rSeq (h : Nx S s env env1) (h2 : Rt S t env1 d) : Rt S (sSeq s t) env d := fun μ hp => by
  obtain ⟨ν, e⟩ := h μ hp
  obtain ⟨ν2, e2⟩ := h2 (μ ++ ν) (S.ext ν hp)
  exact ⟨ν ++ ν2, by unfold sSeq; rw [e]; dsimp only; rw [e2, List.append_assoc]⟩
theorem rSeqR (h : Rt S s env d) : Rt S (sSeq s t) env d := fun μ hp => by
  obtain ⟨ν, e⟩ := h μ hp
  exact ⟨ν, by unfold sSeq; rw [e]⟩
theorem nSeq (h : Nx S s env env1) (h2 : Nx S t env1 env2) : Nx S (sSeq s t) env env2 := fun μ hp => by
  obtain ⟨ν, e⟩ := h μ hp
  obtain ⟨ν2, e2⟩ := h2 (μ ++ ν) (S.ext ν hp)
  exact ⟨ν ++ ν2, by unfold sSeq; rw [e]; dsimp only; rw [e2, List.append_assoc]⟩
theorem nExpr (h : Pu S (a env) d) : Nx S (sExpr a) env env := fun μ hp => by
  obtain ⟨ν, e⟩ := h μ hp
  exact ⟨ν, by unfold sExpr; rw [e]; rfl⟩
theorem nAsg {tg : Tgt} (h : Pu S (a env) d) (hp : tg.put d env = some env1) : Nx S (sAsg a tg) env env1 := fun μ hm => by
  obtain ⟨ν, e⟩ := h μ hm
  exact ⟨ν, by unfold sAsg; rw [e]; show (match tg.put d env with
    | some env' => Sr.nx env' (μ ++ ν)
    | none => .no) = _; rw [hp]⟩
theorem nPar {i j : Nat} (h : Pu S (ml env) [x, y]) : Nx S (sPar i j ml) env ((env.set i (some x)).set j (some y)) := fun μ hm => by
  obtain ⟨ν, e⟩ := h μ hm
  exact ⟨ν, by unfold sPar; rw [e]; rfl⟩
theorem nIf {c : MB} (h : Pu S (c env) false) (h2 : Nx S t env env1) : Nx S (sIf c s t) env env1 := fun μ hm => by
  obtain ⟨ν, e⟩ := h μ hm
  obtain ⟨ν2, e2⟩ := h2 (μ ++ ν) (S.ext ν hm)
  exact ⟨ν ++ ν2, by unfold sIf; rw [e, ← List.append_assoc]; exact e2⟩
theorem nIfT {c : MB} (h : Pu S (c env) true) (h2 : Nx S s env env1) : Nx S (sIf c s t) env env1 := fun μ hm => by
  obtain ⟨ν, e⟩ := h μ hm
  obtain ⟨ν2, e2⟩ := h2 (μ ++ ν) (S.ext ν hm)
  exact ⟨ν ++ ν2, by unfold sIf; rw [e, ← List.append_assoc]; exact e2⟩
theorem rIfT {c : MB} (h : Pu S (c env) true) (h2 : Rt S s env d) : Rt S (sIf c s t) env d := fun μ hm => by
  obtain ⟨ν, e⟩ := h μ hm
  obtain ⟨ν2, e2⟩ := h2 (μ ++ ν) (S.ext ν hm)
  exact ⟨ν ++ ν2, by unfold sIf; rw [e, ← List.append_assoc]; exact e2⟩
theorem pFn {n N : Nat} {s : MS} {ds : List D} (h : Rt S s (ds.map some ++ List.replicate (N - n) none) d) (hl : ds.length = n := by rfl) : Pu S (fnM n N s ds) d := fun μ hm => by
  obtain ⟨ν, e⟩ := h μ hm
  exact ⟨ν, by unfold fnM; rw [if_pos hl, e]⟩
theorem pFnN {n N : Nat} {s : MS} {ds : List D} (h : Nx S s (ds.map some ++ List.replicate (N - n) none) env1) (hl : ds.length = n := by rfl) : Pu S (fnM n N s ds) .non := fun μ hm => by
  obtain ⟨ν, e⟩ := h μ hm
  exact ⟨ν, by unfold fnM; rw [if_pos hl, e]⟩
/-- a list, still or a cell that is known to hold it -/
structure Ls (S : Kn) (x : D) (l : List D) (c : Option (Nat × D)) : Prop where
  lst : ∀ μ, S.p μ → lstOf μ x = some l
  any : ∀ μ, S.p μ → asAny x μ = .ok ⟨l, c⟩ μ
  as : ∀ μ, S.p μ → asLst x μ = .ok ⟨l, c⟩ μ
  sq : ∀ μ, S.p μ → asSeq x μ = .ok ⟨l, c⟩ μ
  ok : ∀ μ, S.p μ → (Its.mk l c).ok μ = true
  nd : ∀ μ, S.p μ → dctOf μ x = none
  kd : ∀ μ, S.p μ → kindOf μ x = some "list"
theorem ls_lst {l : List D} : Ls S (.lst l) l none := ⟨fun _ _ => rfl, fun _ _ => rfl, fun _ _ => rfl, fun _ _ => rfl, fun _ _ => rfl, fun _ _ => rfl, fun _ _ => rfl⟩
theorem ls_cel {i : Nat} {l : List D} (h : ∀ μ, S.p μ → μ[i]? = some (some (.lst l))) : Ls S (.cel i) l (some (i, .lst l)) := by
  have a : ∀ μ, S.p μ → asLst (.cel i) μ = .ok ⟨l, some (i, .lst l)⟩ μ := fun μ hp => by
    unfold asLst
    dsimp only
    rw [h μ hp]
  refine ⟨fun μ hp => ?_, a, a, a, fun μ hp => ?_, fun μ hp => ?_, fun μ hp => ?_⟩
  · unfold lstOf; dsimp only; rw [h μ hp]
  · show decide (μ[i]? = some (some (D.lst l))) = true
    exact decide_eq_true (h μ hp)
  · unfold dctOf; dsimp only; rw [h μ hp]
  · unfold kindOf; dsimp only; rw [h μ hp]
theorem wAny {l : List D} {ch : Option (Nat × D)} (h : Pu S (a env) x) (hl : Ls S x l ch) : Pu S (iAny a env) ⟨l, ch⟩ := h.bind (.of hl.any)
theorem wSeq {l : List D} {ch : Option (Nat × D)} (h : Pu S (a env) x) (hl : Ls S x l ch) : Pu S (iSeq a env) ⟨l, ch⟩ := h.bind (.of hl.sq)
theorem wAnyT {l : List D} (h : Pu S (a env) (.tup l)) : Pu S (iAny a env) ⟨l, none⟩ := h.bind (.rfl_ fun _ => rfl)
theorem wEnum {l : List D} {ch : Option (Nat × D)} (h : Pu S (ml env) [x]) (hl : Ls S x l ch) : Pu S (iEnumM ml env) ⟨enumL l 0, ch⟩ := h.bind (.of fun μ hp => by
  show (asLst x μ).bind (fun t m => Rs.ok (Its.mk (enumL t.items 0) t.chk) m) = _
  rw [hl.as μ hp]
  rfl)
theorem wRng1 {n : Int} (h : Pu S (ml env) [.int n]) (hb : big62 n = true) : Pu S (iRng1 ml env) ⟨rangeL 0 n, none⟩ := h.bind (.rfl_ fun μ => if_pos hb)
/-- the check of what is walked -/
abbrev Ok (S : Kn) (c : Option (Nat × D)) : Prop := ∀ (l : List D) μ, S.p μ → (Its.mk l c).ok μ = true
theorem Ls.okc {l : List D} {ch : Option (Nat × D)} (h : Ls S x l ch) : Ok S ch := fun _ μ hp => h.ok μ hp
theorem ok0 : Ok S none := fun _ _ _ => rfl
theorem compM_pu {ch : Option (Nat × D)} (okc : Ok S ch) {tg : D → CL.Env → Option CL.Env} {tt : MB} {te : ME} {xs0 : List D} {g : α → D} {f : α → D} {b : α → Bool} {e : α → CL.Env} : ∀ (l : List α), (∀ a ∈ l, tg (g a) env = some (e a)) → (∀ a ∈ l, Pu S (tt (e a)) (b a)) → (∀ a ∈ l, b a = true → Pu S (te (e a)) (f a)) →
    Pu S (compM ⟨xs0, ch⟩ tg tt te env (l.map g)) ((l.filter b).map f)
  | [], _, _, _ => .of fun μ hp => if_pos (okc _ μ hp)
  | a :: l, h1, h2, h3 => by
    have ih := compM_pu okc (tg := tg) (tt := tt) (te := te) (xs0 := xs0) (g := g) (f := f) (b := b) (e := e) l (fun x hx => h1 x (.tail _ hx)) (fun x hx => h2 x (.tail _ hx)) (fun x hx => h3 x (.tail _ hx))
    have e1 := h1 a List.mem_cons_self
    have e2 := h2 a List.mem_cons_self
    have goal : Pu S (fun μ => (tt (e a) μ).bindN fun t μ1 => if t = true then (te (e a) μ1).bindN fun x μ2 => (compM ⟨xs0, ch⟩ tg tt te env (l.map g) μ2).bindN fun xs μ3 => .ok (x :: xs) μ3
        else compM ⟨xs0, ch⟩ tg tt te env (l.map g) μ1) (((a :: l).filter b).map f) := by
      refine e2.bindN (k := fun t μ1 => if t = true then (te (e a) μ1).bindN fun x μ2 => (compM ⟨xs0, ch⟩ tg tt te env (l.map g) μ2).bindN fun xs μ3 => .ok (x :: xs) μ3 else compM ⟨xs0, ch⟩ tg tt te env (l.map g) μ1) ?_
      cases hb : b a with
      | false =>
        rw [List.filter_cons_of_neg (by rw [hb]; decide)]
        exact ih
      | true =>
        rw [List.filter_cons_of_pos hb]
        exact (h3 a List.mem_cons_self hb).bindN (k := fun x μ2 => (compM ⟨xs0, ch⟩ tg tt te env (l.map g) μ2).bindN fun xs μ3 => .ok (x :: xs) μ3) (ih.bindN pOk)
    intro μ hp
    obtain ⟨ν, eg⟩ := goal μ hp
    refine ⟨ν, (if_pos (okc _ μ hp)).trans ?_⟩
    show (match tg (g a) env with
      | none => Rs.no
      | some env1 => (tt env1 μ).bindN fun t μ1 => if t = true then (te env1 μ1).bindN fun x μ2 => (compM ⟨xs0, ch⟩ tg tt te env (l.map g) μ2).bindN fun xs μ3 => Rs.ok (x :: xs) μ3
        else compM ⟨xs0, ch⟩ tg tt te env (l.map g) μ1) = _
    rw [e1]
    exact eg
theorem pComp {ch : Option (Nat × D)} {mi : MI} {tg : Tgt} {tt : MB} {te : ME} {vs : List Nat} {g : α → D} {l : List α} (okc : Ok S ch) (e : α → CL.Env) (b : α → Bool) (f : α → D) (hi : Pu S (mi env) ⟨l.map g, ch⟩) (hl : l.length ≤ lim) (h1 : ∀ a ∈ l, tg.put (g a) (wipeE env vs) = some (e a)) (h2 : ∀ a ∈ l, Pu S (tt (e a)) (b a))
    (h3 : ∀ a ∈ l, b a = true → Pu S (te (e a)) (f a)) : Pu S (mComp kFz mi tg tt te vs env) (.lst ((l.filter b).map f)) :=
  hi.mk2 (k := fun _ μ' => (compM ⟨l.map g, ch⟩ tg.put tt te (wipeE env vs) (l.map g) μ').bindN kFz) ((compM_pu okc l h1 h2 h3).bindN (k := kFz) (.rfl_ fun _ => rfl)) fun μ μ' e' => by
    unfold mComp
    rw [e']
    exact if_pos (show (l.map g).length ≤ lim by rw [List.length_map]; exact hl)
/-- without a test -/
theorem pCompY {ch : Option (Nat × D)} {mi : MI} {tg : Tgt} {te : ME} {vs : List Nat} {g : α → D} {l : List α} (okc : Ok S ch) (e : α → CL.Env) (f : α → D) (hi : Pu S (mi env) ⟨l.map g, ch⟩) (hl : l.length ≤ lim) (h1 : ∀ a ∈ l, tg.put (g a) (wipeE env vs) = some (e a))
    (h3 : ∀ a ∈ l, Pu S (te (e a)) (f a)) : Pu S (mComp kFz mi tg bYes te vs env) (.lst (l.map f)) := by
  have h := pComp (S := S) (mi := mi) (tg := tg) (tt := bYes) (te := te) (vs := vs) (env := env) (g := g) (l := l) okc e (fun _ => true) f hi hl h1 (fun _ _ => pYes) (fun a ha _ => h3 a ha)
  rwa [List.filter_eq_self.mpr (fun _ _ => rfl)] at h
/-- by what stands at the elements -/
theorem compL_pu {ch : Option (Nat × D)} (okc : Ok S ch) {tg : D → CL.Env → Option CL.Env} {te : ML} {xs0 : List D} {g : α → D} {f : α → List D} {e : α → CL.Env} : ∀ (l : List α), (∀ a ∈ l, tg (g a) env = some (e a)) → (∀ a ∈ l, Pu S (te (e a)) (f a)) →
    Pu S (compL ⟨xs0, ch⟩ tg bYes te env (l.map g)) (l.map f)
  | [], _, _ => .of fun μ hp => if_pos (okc _ μ hp)
  | a :: l, h1, h3 => by
    have ih := compL_pu okc (tg := tg) (te := te) (xs0 := xs0) (g := g) (f := f) (e := e) l (fun x hx => h1 x (.tail _ hx)) (fun x hx => h3 x (.tail _ hx))
    have e1 := h1 a List.mem_cons_self
    have goal : Pu S (fun μ => (te (e a) μ).bindN fun x μ2 => (compL ⟨xs0, ch⟩ tg bYes te env (l.map g) μ2).bindN fun xs μ3 => .ok (x :: xs) μ3) ((a :: l).map f) :=
      (h3 a List.mem_cons_self).bindN (k := fun x μ2 => (compL ⟨xs0, ch⟩ tg bYes te env (l.map g) μ2).bindN fun xs μ3 => .ok (x :: xs) μ3) (ih.bindN pOk)
    intro μ hp
    obtain ⟨ν, eg⟩ := goal μ hp
    refine ⟨ν, (if_pos (okc _ μ hp)).trans ?_⟩
    show (match tg (g a) env with
      | none => Rs.no
      | some env1 => (te env1 μ).bindN fun x μ2 => (compL ⟨xs0, ch⟩ tg bYes te env (l.map g) μ2).bindN fun xs μ3 => Rs.ok (x :: xs) μ3) = _
    rw [e1]
    exact eg
theorem pDictC {ch : Option (Nat × D)} {t : Bool} {mi : MI} {tg : Tgt} {mk mv : ME} {vs : List Nat} {g : α → D} {l : List α} (okc : Ok S ch) (e : α → CL.Env) (fk fv : α → D) (hi : Pu S (mi env) ⟨l.map g, ch⟩) (hl : l.length ≤ lim) (h1 : ∀ a ∈ l, tg.put (g a) (wipeE env vs) = some (e a))
    (h2 : ∀ a ∈ l, Pu S (mk (e a)) (fk a)) (h3 : ∀ a ∈ l, Pu S (mv (e a)) (fv a)) (hk : ∀ a ∈ l, keyOk t (fk a) = true) : Pu S (mDictC t (kDFz t) mi tg bYes mk mv vs env) (.dct t (kdsOf (l.map fun a => [fk a, fv a]))) :=
  hi.bind (k := fun it m => (compL it tg.put bYes (mCons mk (mCons mv mNil)) (wipeE env vs) it.items m).bindN fun yss m' => if yss.length ≤ lim ∧ (yss.all fun l => keyOk t (l.headD .non)) = true then kDFz t (kdsOf yss) m' else .no)
    ((compL_pu okc (f := fun a => [fk a, fv a]) l h1 fun a ha => pCons (h2 a ha) (pCons (h3 a ha) pNil)).bindN fun μ hp => by
      rw [if_pos ⟨by rw [List.length_map]; exact hl, List.all_eq_true.mpr fun x hx => by
        obtain ⟨a, ha, rfl⟩ := List.mem_map.mp hx
        exact hk a ha⟩]
      exact ⟨[], by rw [List.append_nil]; rfl⟩)
theorem pSetC {ch : Option (Nat × D)} {mi : MI} {tg : Tgt} {te : ME} {vs : List Nat} {g : α → D} {l : List α} {k : List D → M D} (okc : Ok S ch) (e : α → CL.Env) (f : α → D) (hi : Pu S (mi env) ⟨l.map g, ch⟩) (h1 : ∀ a ∈ l, tg.put (g a) (wipeE env vs) = some (e a))
    (h3 : ∀ a ∈ l, Pu S (te (e a)) (f a)) (ok : setOk (l.map f) = true) (hk : Pu S (k (ddL (l.map f))) z) : Pu S (mSetC k mi tg bYes te vs env) z :=
  hi.mk2 (k := fun _ μ' => (compL ⟨l.map g, ch⟩ tg.put bYes (mCons te mNil) (wipeE env vs) (l.map g) μ').bindN fun yss m' => (if setOk (yss.map fun l => l.headD .non) = true then k (ddL (yss.map fun l => l.headD .non)) m' else .no : Rs D))
    ((compL_pu okc (f := fun a => [f a]) l h1 fun a ha => pCons (h3 a ha) pNil).bindN fun μ hp => by
      have e : ((l.map fun a => [f a]).map fun l => l.headD D.non) = l.map f := by rw [List.map_map]; rfl
      rw [e, if_pos ok]
      exact hk μ hp) fun μ μ' e' => by unfold mSetC; rw [e']; rfl
theorem pSetL {ch : Option (Nat × D)} {k : List D → M D} {l : List D} (h : Pu S (a env) x) (hl : Ls S x l ch) (ok : setOk l = true) (hk : Pu S (k (ddL l)) z) : Pu S (mSetL k a env) z := h.mk2 (k := fun x μ1 => (match lstOf μ1 x with
  | some ys => if setOk ys = true then k (ddL ys) μ1 else .no
  | none => .no : Rs D)) (fun μ hp => by
    dsimp only
    rw [hl.lst μ hp]
    dsimp only
    rw [if_pos ok]
    exact hk μ hp) fun μ μ' e => by unfold mSetL; rw [e]; rfl
theorem len_ls {ch : Option (Nat × D)} {l : List D} (hl : Ls S x l ch) : Pu S (dLen [x]) (.int (l.length : Nat)) := .of fun μ hp => by
  unfold dLen
  dsimp only
  rw [hl.lst μ hp]
/-- two clauses: the inner items by what the outer one put -/
theorem pComp2 {ch ch1 : Option (Nat × D)} {β : Type} {mi mi1 : MI} {tg tg1 : Tgt} {te : ME} {vs vs1 : List Nat} {g : α → D} {l : List α} (okc : Ok S ch) (okc1 : Ok S ch1) (e : α → CL.Env) (l1 : α → List β) (g1 : β → D) (e1 : α → β → CL.Env) (f : α → β → D) (hi : Pu S (mi env) ⟨l.map g, ch⟩) (h1 : ∀ a ∈ l, tg.put (g a) (wipeE env vs) = some (e a))
    (hi1 : ∀ a ∈ l, Pu S (mi1 (e a)) ⟨(l1 a).map g1, ch1⟩) (h2 : ∀ a ∈ l, ∀ b ∈ l1 a, tg1.put (g1 b) (wipeE (e a) vs1) = some (e1 a b)) (h3 : ∀ a ∈ l, ∀ b ∈ l1 a, Pu S (te (e1 a b)) (f a b)) (hl : (l.flatMap fun a => (l1 a).map (f a)).length ≤ lim) :
    Pu S (mComp2 kFz mi tg bYes mi1 tg1 bYes te vs vs1 env) (.lst (l.flatMap fun a => (l1 a).map (f a))) :=
  hi.bind (k := fun it m => (compL it tg.put bYes (comp2 mi1 tg1 bYes te vs1) (wipeE env vs) it.items m).bindN fun yss m' => if yss.flatten.length ≤ lim then kFz yss.flatten m' else .no)
    ((compL_pu okc (f := fun a => (l1 a).map (f a)) l h1 fun a ha => (hi1 a ha).bind (k := fun it m => (compL it tg1.put bYes (mCons te mNil) (wipeE (e a) vs1) it.items m).bindN fun yss m' => .ok yss.flatten m')
      ((compL_pu okc1 (f := fun b => [f a b]) (l1 a) (h2 a ha) fun b hb => pCons (h3 a ha b hb) pNil).bindN (.rfl_ fun μ => by
        have q : ∀ l : List β, (l.map fun b => [f a b]).flatten = l.map (f a) := fun l => by
          induction l with
          | nil => rfl
          | cons x l ih => rw [List.map_cons, List.flatten_cons, ih]; rfl
        rw [q]))).bindN fun μ hp => by
      rw [if_pos (show (l.map fun a => (l1 a).map (f a)).flatten.length ≤ lim by rw [← List.flatMap_def]; exact hl)]
      exact ⟨[], by rw [List.append_nil, ← List.flatMap_def]; rfl⟩)
end
end PU

namespace PU
open PySem CL
section
variable {S : Kn} {α : Type}
theorem pd_up : ∀ (n : Nat) (d : D) (p : PyData) (μ : Mem), pd [] n d = some p → pd μ n d = some p
  | 0, _, _, _, h => nomatch h
  | n + 1, d, p, μ, h => by
    have all : ∀ (ds : List D) (ps : List PyData), ds.mapM (pd [] n) = some ps → ds.mapM (pd μ n) = some ps := fun ds => by
      induction ds with
      | nil => exact fun _ h => h
      | cons d ds ih =>
        intro ps h
        rw [List.mapM_cons] at h ⊢
        cases h1 : pd [] n d with
        | none => rw [h1] at h; exact nomatch h
        | some q =>
          rw [h1] at h
          rw [pd_up n d q μ h1]
          cases h2 : ds.mapM (pd [] n) with
          | none => simp [h2] at h
          | some qs =>
            rw [ih qs h2]
            rw [h2] at h
            exact h
    cases d with
    | lst ds =>
      unfold pd at h ⊢
      dsimp only at h ⊢
      cases h2 : ds.mapM (pd [] n) with
      | none => rw [h2] at h; exact nomatch h
      | some qs => rw [h2] at h; rw [all ds qs h2]; exact h
    | tup ds =>
      unfold pd at h ⊢
      dsimp only at h ⊢
      cases h2 : ds.mapM (pd [] n) with
      | none => rw [h2] at h; exact nomatch h
      | some qs => rw [h2] at h; rw [all ds qs h2]; exact h
    | cel i => exact nomatch (show (none : Option PyData) = some p from h)
    | _ => exact h
/-- it can be compared -/
def Cmp (d : D) : Prop := ∃ p, pd [] 40 d = some p ∧ SeqAt.shaped p = true
theorem eq_refl {d : D} (h : Cmp d) : Pu S (dEqA d d) (.bl true) := .rfl_ fun μ => by
  obtain ⟨p, h1, h2⟩ := h
  have e : dEq d d μ = .ok (.bl true) μ := by
    unfold dEq
    rw [pd_up _ _ _ _ h1]
    dsimp only
    rw [h2]
    have := SeqAt.eqv_refl p (SeqAt.canLay_of_shaped h2)
    rw [this]
    rfl
  cases d with
  | str x => show Rs.ok (D.bl (decide (x = x))) μ = _; rw [decide_eq_true rfl]
  | _ => exact e
theorem ne_refl {d : D} (h : Cmp d) : Pu S (dNeA d d) (.bl false) := .rfl_ fun μ => by
  obtain ⟨p, h1, h2⟩ := h
  have e : dNe d d μ = .ok (.bl false) μ := by
    unfold dNe
    rw [pd_up _ _ _ _ h1]
    dsimp only
    rw [h2]
    have := SeqAt.eqv_refl p (SeqAt.canLay_of_shaped h2)
    rw [this]
    rfl
  cases d with
  | str x => show Rs.ok (D.bl (!decide (x = x))) μ = _; rw [decide_eq_true rfl]; rfl
  | _ => exact e
theorem eq_int {i j : Int} : Pu S (dEqA (.int i) (.int j)) (.bl (i == j)) := .rfl_ fun _ => rfl
theorem ne_int {i j : Int} : Pu S (dNeA (.int i) (.int j)) (.bl (!(i == j))) := .rfl_ fun _ => rfl
theorem eq_str {i j : Str} : Pu S (dEqA (.str i) (.str j)) (.bl (decide (i = j))) := .rfl_ fun _ => rfl
theorem ne_str {i j : Str} : Pu S (dNeA (.str i) (.str j)) (.bl (!decide (i = j))) := .rfl_ fun _ => rfl
theorem ne_bl {i j : Bool} : Pu S (dNeA (.bl i) (.bl j)) (.bl (!(i == j))) := .rfl_ fun _ => rfl
theorem eq_bl {i j : Bool} : Pu S (dEqA (.bl i) (.bl j)) (.bl (i == j)) := .rfl_ fun _ => rfl
theorem mapM_some {β γ : Type} {f : β → Option γ} {g : α → β} {h : α → γ} : ∀ (l : List α), (∀ a ∈ l, f (g a) = some (h a)) → (l.map g).mapM f = some (l.map h)
  | [], _ => rfl
  | a :: l, hl => by
    rw [List.map_cons, List.mapM_cons, hl a List.mem_cons_self, mapM_some l fun x hx => hl x (.tail _ hx)]
    rfl
theorem canAll {h : α → PyData} : ∀ (l : List α), (∀ a ∈ l, (h a).canLay0 = true) → PyData.canLayAll0 (l.map h) = true
  | [], _ => by rw [List.map_nil, PyData.canLayAll0]
  | a :: l, hl => by
    rw [List.map_cons, PyData.canLayAll0, hl a List.mem_cons_self, canAll l fun x hx => hl x (.tail _ hx)]
    rfl
theorem depAll {h : α → PyData} {n : Nat} : ∀ (l : List α), (∀ a ∈ l, (h a).depth ≤ n) → PyData.depthAll (l.map h) ≤ n
  | [], _ => by rw [List.map_nil, PyData.depthAll]; exact Nat.zero_le _
  | a :: l, hl => by
    rw [List.map_cons, PyData.depthAll]
    exact Nat.max_le.mpr ⟨hl a List.mem_cons_self, depAll l fun x hx => hl x (.tail _ hx)⟩
/-- one comparison level: n, data p, of depth m -/
structure Cm (n m : Nat) (d : D) (p : PyData) : Prop where
  pd : CL.pd [] n d = some p
  can : p.canLay0 = true
  dep : p.depth ≤ m
theorem Cm.cmp {m : Nat} {d : D} {p : PyData} (h : Cm 40 m d p) (hm : m ≤ 64 := by decide) : Cmp d := ⟨p, h.pd, by
  unfold SeqAt.shaped
  rw [h.can, decide_eq_true (Nat.le_trans h.dep hm)]
  rfl⟩
theorem cm_str {n : Nat} {x : Str} (h : PyData.strOk x = true) : Cm (n + 1) 0 (.str x) (.str x) := ⟨rfl, by rw [PyData.canLay0]; exact h, by rw [PyData.depth]; exact Nat.zero_le _⟩
theorem cm_int {n : Nat} {x : Int} : Cm (n + 1) 0 (.int x) (.int x) := ⟨rfl, by rw [PyData.canLay0], by rw [PyData.depth]; exact Nat.zero_le _⟩
theorem cm_lst {n m : Nat} {l : List α} {g : α → D} {h : α → PyData} (hl : ∀ a ∈ l, Cm n m (g a) (h a)) : Cm (n + 1) (m + 1) (.lst (l.map g)) (.list (l.map h)) := ⟨by
  show ((l.map g).mapM (CL.pd [] n)).map PyData.list = _
  rw [mapM_some l fun a ha => (hl a ha).pd]
  rfl, by rw [PyData.canLay0]; exact canAll l fun a ha => (hl a ha).can, by rw [PyData.depth]; exact Nat.succ_le_succ (depAll l fun a ha => (hl a ha).dep)⟩
theorem cm_tup {n m : Nat} {l : List α} {g : α → D} {h : α → PyData} (hl : ∀ a ∈ l, Cm n m (g a) (h a)) : Cm (n + 1) (m + 1) (.tup (l.map g)) (.tuple (l.map h)) := ⟨by
  show ((l.map g).mapM (CL.pd [] n)).map PyData.tuple = _
  rw [mapM_some l fun a ha => (hl a ha).pd]
  rfl, by rw [PyData.canLay0]; exact canAll l fun a ha => (hl a ha).can, by rw [PyData.depth]; exact Nat.succ_le_succ (depAll l fun a ha => (hl a ha).dep)⟩
theorem Cm.up {n m m' : Nat} {d : D} {p : PyData} (h : Cm n m d p) (hm : m ≤ m') : Cm n m' d p := ⟨h.pd, h.can, Nat.le_trans h.dep hm⟩
abbrev dS (s : Str) : D := .str s
abbrev dP (p : Str × Str) : D := .tup [.str p.1, .str p.2]
abbrev nmD (l : List Str) : D := .lst (l.map dS)
abbrev vdD (l : List (Str × Str)) : D := .lst (l.map dP)
theorem cm_nm {l : List Str} (h : ∀ s ∈ l, PyData.strOk s = true) : Cm 40 1 (nmD l) (.list (l.map .str)) := cm_lst fun s hs => cm_str (n := 38) (h s hs)
theorem cm_pr {n : Nat} {p : Str × Str} (h1 : PyData.strOk p.1 = true) (h2 : PyData.strOk p.2 = true) : Cm (n + 2) 1 (dP p) (.tuple [.str p.1, .str p.2]) :=
  cm_tup (l := [p.1, p.2]) (g := dS) (h := .str) fun a ha => by
    rcases List.mem_cons.mp ha with e | ha
    · rw [e]; exact cm_str h1
    · rw [List.mem_singleton.mp ha]; exact cm_str h2
theorem cm_vd {l : List (Str × Str)} (h : ∀ p ∈ l, PyData.strOk p.1 = true ∧ PyData.strOk p.2 = true) : Cm 40 2 (vdD l) (.list (l.map fun p => .tuple [.str p.1, .str p.2])) := cm_lst fun p hp => cm_pr (n := 37) (h p hp).1 (h p hp).2
theorem dP_inj {a b : Str × Str} (h : dP a = dP b) : a = b := by
  unfold dP at h
  injection h with h
  injection h with h1 h2
  injection h2 with h2 _
  injection h1 with h1
  injection h2 with h2
  exact Prod.ext h1 h2
theorem dS_inj {a b : Str} (h : dS a = dS b) : a = b := by
  injection h
/-- a text in a list of texts -/
theorem in_nm {s : Str} {l : List Str} (hs : PyData.strOk s = true) (h : ∀ s ∈ l, PyData.strOk s = true) (neg : Bool) : Pu S (dIn neg (dS s) (nmD l)) (.bl (neg ^^ decide (s ∈ l))) := .rfl_ fun μ => by
  have c := cm_nm h
  have e : inLst neg (dS s) (nmD l) μ = .ok (.bl (neg ^^ decide (s ∈ l))) μ := by
    unfold inLst
    have p1 : pd μ 40 (dS s) = some (.str s) := rfl
    rw [p1, pd_up _ _ _ _ c.pd]
    have k1 : SeqAt.shaped (.str s) = true := by
      have q := cm_str (n := 39) hs
      unfold SeqAt.shaped
      rw [q.can, decide_eq_true (Nat.le_trans q.dep (by decide))]
      rfl
    have k2 : SeqAt.shaped (.list (l.map PyData.str)) = true := by
      unfold SeqAt.shaped
      rw [c.can, decide_eq_true (Nat.le_trans c.dep (by decide))]
      rfl
    have any : ((l.map PyData.str).any fun z => PyData.eqv z (.str s)) = decide (s ∈ l) := by
      rw [Bool.eq_iff_iff, List.any_eq_true, decide_eq_true_eq]
      constructor
      · rintro ⟨z, hz, ez⟩
        obtain ⟨a, ha, rfl⟩ := List.mem_map.mp hz
        rw [PyData.eqv] at ez
        rw [← eq_of_beq ez]
        exact ha
      · intro hm
        refine ⟨.str s, List.mem_map_of_mem hm, ?_⟩
        rw [PyData.eqv]
        exact beq_self_eq_true s
    show (match lstOf μ (nmD l) with
      | some _ => (if (SeqAt.shaped (.str s) && SeqAt.shaped (.list (l.map PyData.str))) = true then Rs.ok (D.bl (if neg = true then !(l.map PyData.str).any fun z => PyData.eqv z (.str s) else (l.map PyData.str).any fun z => PyData.eqv z (.str s))) μ else .no)
      | none => .no) = _
    rw [k1, k2, any]
    cases neg
    · rw [Bool.false_xor]; rfl
    · rw [Bool.true_xor]; rfl
  exact e
theorem toKs_S (l : List Str) : toKs (l.map dS) = some (l.map Sum.inr) := by
  induction l with
  | nil => rfl
  | cons s l ih => rw [List.map_cons, toKs, ih]; rfl
/-- distinct keys: as they come -/
theorem kdsOf_new {fk fv : α → D} : ∀ (l : List α), (l.map fk).Nodup → kdsOf (l.map fun a => [fk a, fv a]) = l.map fun a => (fk a, fv a) := by
  have go : ∀ (l : List α) (acc : List (D × D)), (l.map fk).Nodup → (∀ a ∈ l, ∀ q ∈ acc, q.1 ≠ fk a) → (l.map fun a => [fk a, fv a]).foldl (fun acc l => match l with
      | [k, v] => dput acc k v
      | _ => acc) acc = acc ++ l.map fun a => (fk a, fv a) := by
    intro l
    induction l with
    | nil => intro acc _ _; rw [List.map_nil, List.map_nil, List.append_nil]; rfl
    | cons a l ih =>
      intro acc nd fr
      rw [List.map_cons] at nd
      obtain ⟨n1, n2⟩ := List.nodup_cons.mp nd
      have e : dput acc (fk a) (fv a) = acc ++ [(fk a, fv a)] := by
        unfold dput
        rw [if_neg]
        intro z
        obtain ⟨q, hq, eq⟩ := List.any_eq_true.mp z
        exact fr a List.mem_cons_self q hq (of_decide_eq_true eq)
      show (l.map fun a => [fk a, fv a]).foldl _ (dput acc (fk a) (fv a)) = _
      rw [e, ih _ n2, List.map_cons, List.append_assoc]
      · rfl
      · intro b hb q hq
        rcases List.mem_append.mp hq with hq | hq
        · exact fr b (.tail _ hb) q hq
        · rw [List.mem_singleton.mp hq]
          intro z
          have z : fk a = fk b := z
          exact n1 (by rw [z]; exact List.mem_map_of_mem hb)
  intro l nd
  exact (go l [] nd (fun _ _ _ hq => nomatch hq)).trans (List.nil_append _)
theorem dget_map {fk fv : α → D} (hf : ∀ a b, fk a = fk b → a = b) {l : List α} {a : α} (h : a ∈ l) : dget (l.map fun a => (fk a, fv a)) (fk a) = some (fv a) := by
  unfold dget
  induction l with
  | nil => exact nomatch h
  | cons b l ih =>
    rw [List.map_cons, List.find?_cons]
    by_cases e : b = a
    · subst e
      rw [decide_eq_true rfl]
      rfl
    · rw [decide_eq_false fun z => e (hf _ _ z)]
      rcases List.mem_cons.mp h with z | h
      · exact absurd z.symm e
      · exact ih h
theorem dget_no {fk fv : α → D} {l : List α} {k : D} (h : ∀ a ∈ l, fk a ≠ k) : dget (l.map fun a => (fk a, fv a)) k = none := by
  unfold dget
  induction l with
  | nil => rfl
  | cons b l ih =>
    rw [List.map_cons, List.find?_cons, decide_eq_false (h b List.mem_cons_self)]
    exact ih fun a ha => h a (.tail _ ha)
theorem dget_isSome {fk fv : α → D} (hf : ∀ a b, fk a = fk b → a = b) [DecidableEq α] {l : List α} {a : α} : (dget (l.map fun a => (fk a, fv a)) (fk a)).isSome = decide (a ∈ l) := by
  by_cases h : a ∈ l
  · rw [dget_map hf h, decide_eq_true h]
    rfl
  · rw [dget_no fun b hb z => h (by rw [← hf _ _ z]; exact hb), decide_eq_false h]
    rfl
theorem ddL_new (l : List D) (nd : l.Nodup) : ddL l = l := by
  have go : ∀ (l acc : List D), l.Nodup → (∀ x ∈ l, x ∉ acc) → l.foldl insD acc = acc ++ l := by
    intro l
    induction l with
    | nil => intro acc _ _; rw [List.append_nil]; rfl
    | cons a l ih =>
      intro acc nd fr
      obtain ⟨n1, n2⟩ := List.nodup_cons.mp nd
      have e : insD acc a = acc ++ [a] := by
        unfold insD
        rw [if_neg (fr a List.mem_cons_self)]
      rw [List.foldl_cons, e, ih _ n2, List.append_assoc]
      · rfl
      · intro b hb hm
        rcases List.mem_append.mp hm with hm | hm
        · exact fr b (.tail _ hb) hm
        · exact n1 (by rw [← List.mem_singleton.mp hm]; exact hb)
  unfold ddL
  rw [go l [] nd (fun _ _ h => nomatch h), List.nil_append]
theorem setOk_S {l : List Str} (h : l.length < 4096) : setOk (l.map dS) = true := by
  unfold setOk
  rw [Bool.or_eq_true]
  refine .inl ?_
  rw [Bool.and_eq_true, List.all_eq_true]
  refine ⟨fun x hx => ?_, decide_eq_true (by rw [List.length_map]; exact h)⟩
  obtain ⟨s, _, rfl⟩ := List.mem_map.mp hx
  rfl
theorem setOk_P {l : List (Str × Str)} (h : l.length ≤ 300) : setOk (l.map dP) = true := by
  unfold setOk
  rw [Bool.or_eq_true]
  refine .inr ?_
  rw [Bool.and_eq_true, List.all_eq_true]
  refine ⟨fun x hx => ?_, decide_eq_true (by rw [List.length_map]; exact Nat.le_trans h (by decide))⟩
  obtain ⟨s, _, rfl⟩ := List.mem_map.mp hx
  rfl
theorem nodup_map {β : Type} {f : α → β} (hf : ∀ a b, f a = f b → a = b) {l : List α} (h : l.Nodup) : (l.map f).Nodup := by
  induction l with
  | nil => exact .nil
  | cons a l ih =>
    obtain ⟨n1, n2⟩ := List.nodup_cons.mp h
    rw [List.map_cons]
    refine List.nodup_cons.mpr ⟨fun z => ?_, ih n2⟩
    obtain ⟨b, hb, e⟩ := List.mem_map.mp z
    exact n1 (by rw [← hf _ _ e]; exact hb)
theorem enum_map {f : α → D} : ∀ (l : List α) (k : Nat), enumL (l.map f) k = (l.zipIdx k).map fun p => .tup [.int (p.2 : Nat), f p.1]
  | [], _ => rfl
  | a :: l, k => by
    rw [List.map_cons, enumL, enum_map l (k + 1)]
    rfl
theorem len_lst {l : List D} : Pu S (dLen [.lst l]) (.int (l.length : Nat)) := .rfl_ fun _ => rfl
theorem idx_lst {l : List D} {i : Nat} {d : D} (h : l[i]? = some d) : Pu S (dIdx (.lst l) (.int (i : Nat))) d := .rfl_ fun μ => by
  show seqIdx (.lst l) (.int (i : Nat)) μ = _
  have hi : i < l.length := (List.getElem?_eq_some_iff.mp h).1
  have e : atD l (i : Nat) = some d := by
    unfold atD
    have : L2.ixN l.length (i : Nat) = some i := by
      unfold L2.ixN
      rw [if_pos (by omega), if_pos (by omega), Int.toNat_natCast]
    rw [this]
    exact h
  have q : seqIdx (.lst l) (.int (i : Nat)) μ = (match atD l (i : Nat) with
    | some d => Rs.ok d μ
    | none => .no) := rfl
  rw [q, e]
theorem all_map {l : List α} {b : α → Bool} : Pu S (dAll (fun bs => bs.all id) [.lst (l.map fun a => .bl (b a))]) (.bl (l.all b)) := .rfl_ fun μ => by
  have e : asBls (l.map fun a => D.bl (b a)) = some (l.map b) := by
    induction l with
    | nil => rfl
    | cons a l ih => rw [List.map_cons, asBls, ih]; rfl
  show (match asBls (l.map fun a => D.bl (b a)) with
    | some bs => Rs.ok (D.bl (bs.all id)) μ
    | none => .no) = _
  rw [e]
  dsimp only
  rw [List.all_map]
  rfl
end
end PU

namespace PU
open PySem CL
section
variable {S : Kn} {α : Type} {env env1 : CL.Env} {x y z d : D} {a b c e o : ME} {ml mk : ML} {g : D → D → M D}
theorem pbNot_f {c : MB} (h : Pu S (c env) true) : Pu S (bNot c env) false := pbNot h
theorem pbNot_t {c : MB} (h : Pu S (c env) false) : Pu S (bNot c env) true := pbNot h
theorem pbOr_ff {c c' : MB} (h : Pu S (c env) false) (h2 : Pu S (c' env) false) : Pu S (bOr c c' env) false := pbOr h fun _ => h2
theorem pbOr_t {c c' : MB} (h : Pu S (c env) true) : Pu S (bOr c c' env) true := pbOr (t := true) h fun z => nomatch z
theorem pbOr_ft {c c' : MB} (h : Pu S (c env) false) (h2 : Pu S (c' env) true) : Pu S (bOr c c' env) true := pbOr h fun _ => h2
theorem pbAnd_tt {c c' : MB} (h : Pu S (c env) true) (h2 : Pu S (c' env) true) : Pu S (bAnd c c' env) true := pbAnd h fun _ => h2
theorem pbAnd_f {c c' : MB} (h : Pu S (c env) false) : Pu S (bAnd c c' env) false := pbAnd (t := false) h fun z => nomatch z
theorem pAnd_tt (h : Pu S (a env) (.bl true)) (h2 : Pu S (b env) (.bl true)) : Pu S (mAnd a b env) (.bl true) := pAnd h fun _ => h2
theorem pAnd_t {t : Bool} (h : Pu S (a env) (.bl true)) (h2 : Pu S (b env) (.bl t)) : Pu S (mAnd a b env) (.bl t) := (pAnd h fun _ => h2).cast (by rw [Bool.true_and])
theorem pAnd_f (h : Pu S (a env) (.bl false)) : Pu S (mAnd a b env) (.bl false) := pAnd (t := false) h fun z => nomatch z
theorem pNot_f (h : Pu S (a env) (.bl true)) : Pu S (mNot a env) (.bl false) := pNot h
theorem pNot_t (h : Pu S (a env) (.bl false)) : Pu S (mNot a env) (.bl true) := pNot h
theorem pChain_tt {g' : D → D → M D} {u : D} (ha : Pu S (a env) x) (hb : Pu S (b env) y) (hg : Pu S (g x y) (.bl true)) (hc : Pu S (c env) u) (h' : Pu S (g' y u) (.bl true)) : Pu S (mChain g g' a b c env) (.bl true) := pChain ha hb hg fun _ => ⟨hc, h'⟩
theorem pIf_t {c : MB} (hc : Pu S (c env) true) (h1 : Pu S (a env) x) : Pu S (mIf c a b env) x := pIf (y := x) hc (fun _ => h1) fun z => nomatch z
theorem pIf_f {c : MB} (hc : Pu S (c env) false) (h1 : Pu S (b env) x) : Pu S (mIf c a b env) x := pIf (x := x) hc (fun z => nomatch z) fun _ => h1
theorem le_t {i j : Int} (h : i ≤ j) : Pu S (dLe (.int i) (.int j)) (.bl true) := .rfl_ fun μ => by show Rs.ok (D.bl (decide (i ≤ j))) μ = _; rw [decide_eq_true h]
theorem lt_t {i j : Int} (h : i < j) : Pu S (dLt (.int i) (.int j)) (.bl true) := .rfl_ fun μ => by show Rs.ok (D.bl (decide (i < j))) μ = _; rw [decide_eq_true h]
theorem lt_f {i j : Int} (h : ¬ i < j) : Pu S (dLt (.int i) (.int j)) (.bl false) := .rfl_ fun μ => by show Rs.ok (D.bl (decide (i < j))) μ = _; rw [decide_eq_false h]
theorem sub_i {i j : Int} : Pu S (dSub (.int i) (.int j)) (.int (i - j)) := .rfl_ fun _ => rfl
theorem add_i {k : List D → M D} {i j : Int} : Pu S (dAddK k (.int i) (.int j)) (.int (i + j)) := .rfl_ fun _ => rfl
theorem eq_t {i j : Int} (h : i = j) : Pu S (dEqA (.int i) (.int j)) (.bl true) := eq_int.cast (by rw [h, beq_self_eq_true])
theorem ne_t {i j : Int} (h : i ≠ j) : Pu S (dNeA (.int i) (.int j)) (.bl true) := ne_int.cast (by rw [beq_false_of_ne h]; rfl)
theorem ne_f {i j : Int} (h : i = j) : Pu S (dNeA (.int i) (.int j)) (.bl false) := ne_int.cast (by rw [h, beq_self_eq_true]; rfl)
theorem nes_t {i j : Str} (h : i ≠ j) : Pu S (dNeA (.str i) (.str j)) (.bl true) := ne_str.cast (by rw [decide_eq_false h]; rfl)
theorem isi_lst {ch : Option (Nat × D)} {l : List D} (h : Ls S x l ch) : Pu S (dIsi "list" x) (.bl true) := .of fun μ hp => by
  unfold dIsi
  rw [h.kd μ hp]
  dsimp only
  rw [show isiB "list" "list" = true from by decide +kernel]
theorem isi_tup {l : List D} : Pu S (dIsi "tuple" (.tup l)) (.bl true) := .rfl_ fun μ => by
  show Rs.ok (D.bl (isiB "tuple" "tuple")) μ = _
  rw [show isiB "tuple" "tuple" = true from by decide +kernel]
theorem isi_str {s : Str} : Pu S (dIsi "str" (.str s)) (.bl true) := .rfl_ fun μ => by
  show Rs.ok (D.bl (isiB "str" "str")) μ = _
  rw [show isiB "str" "str" = true from by decide +kernel]
theorem isi_ii {i : Int} : Pu S (dIsi "int" (.int i)) (.bl true) := .rfl_ fun μ => by
  show Rs.ok (D.bl (isiB "int" "int")) μ = _
  rw [show isiB "int" "int" = true from by decide +kernel]
theorem isi_ib {i : Int} : Pu S (dIsi "bool" (.int i)) (.bl false) := .rfl_ fun μ => by
  show Rs.ok (D.bl (isiB "int" "bool")) μ = _
  rw [show isiB "int" "bool" = false from by decide +kernel]
theorem all_t {l : List α} : Pu S (dAll (fun bs => bs.all id) [.lst (l.map fun _ => .bl true)]) (.bl true) := (all_map (b := fun _ : α => true)).cast (by rw [List.all_eq_true.mpr fun _ _ => rfl])
theorem lim_of {n : Nat} (h : n ≤ 1000) : n ≤ lim := Nat.le_trans h (by decide)
theorem lenT {l : List D} : Pu S (dLen [.tup l]) (.int (l.length : Nat)) := .rfl_ fun _ => rfl
theorem idx0 {u v : D} : Pu S (dIdx (.tup [u, v]) (.int 0)) u := .rfl_ fun _ => rfl
theorem idx1 {u v : D} : Pu S (dIdx (.tup [u, v]) (.int 1)) v := .rfl_ fun _ => rfl
theorem min_max {a b : Str} (h : ltS a b = !ltS b a) : (minS a b = a ∧ maxS a b = b ∧ ltS a b = true) ∨ (minS a b = b ∧ maxS a b = a ∧ ltS a b = false) := by
  unfold minS maxS
  cases hb : ltS b a with
  | true =>
    rw [hb] at h
    refine .inr ⟨if_pos rfl, if_neg (by rw [h]; decide), h⟩
  | false =>
    rw [hb] at h
    refine .inl ⟨if_neg (by decide), if_pos h, h⟩
abbrev un (p : Str × Str) : Str × Str := (minS p.1 p.2, maxS p.1 p.2)
def plc (names : List Str) : List (D × D) := names.zipIdx.map fun p => (dS p.1, .int (p.2 : Nat))
def vdt (vds : List (Str × Str)) : List (D × D) := vds.map fun p => (dP p, .bl true)
def rowF (names : List Str) (vds : List (Str × Str)) : List (Str × D) := [("own_places", .dct false (plc names)), ("own_verdicts", .dct true (vdt vds))]
def rowD (names : List Str) (vds : List (Str × Str)) : D := .ins "Row" (rowF names vds)
theorem ins_row {names : List Str} {vds : List (Str × Str)} (μ : Mem) : insOf μ (rowD names vds) = some (("Row" : Str), rowF names vds) := rfl
theorem lk_row {names : List Str} {vds : List (Str × Str)} {m : Str} (h1 : (m == "own_places") = false) (h2 : (m == "own_verdicts") = false) : (rowF names vds).lookup m = none := by
  unfold rowF
  rw [List.lookup, h1]
  dsimp only
  rw [List.lookup, h2]
  rfl
/-- names that a row may have, isN: what is_name does -/
structure NamesOk (isN : List D → M D) (names : List Str) : Prop where
  nd : names.Nodup
  one : 1 ≤ names.length
  few : names.length ≤ 24
  ok : ∀ s ∈ names, PyData.strOk s = true
  nm : ∀ s ∈ names, ∀ μ, isN [.str s] μ = .ok (.bl true) μ
  tot : ∀ a ∈ names, ∀ b ∈ names, a ≠ b → ltS a b = !ltS b a
structure PairsOk (names : List Str) (vds : List (Str × Str)) : Prop where
  mem : ∀ p ∈ vds, p.1 ∈ names ∧ p.2 ∈ names ∧ p.1 ≠ p.2
  nd : (vds.map un).Nodup
structure VdsOk (names : List Str) (vds : List (Str × Str)) : Prop extends PairsOk names vds where
  len : 2 * vds.length = names.length * (names.length - 1)
theorem VdsOk.few {names : List Str} {vds : List (Str × Str)} (h : VdsOk names vds) (hn : names.length ≤ 24) : vds.length ≤ 276 := by
  have := h.len
  have : names.length * (names.length - 1) ≤ 24 * 23 := Nat.mul_le_mul hn (by omega)
  omega
theorem PairsOk.ndP {names : List Str} {vds : List (Str × Str)} (h : PairsOk names vds) : vds.Nodup := by
  have : ∀ (l : List (Str × Str)), (l.map un).Nodup → l.Nodup := fun l => by
    induction l with
    | nil => exact fun _ => .nil
    | cons p l ih =>
      intro h
      rw [List.map_cons] at h
      obtain ⟨h1, h2⟩ := List.nodup_cons.mp h
      exact List.nodup_cons.mpr ⟨fun z => h1 (List.mem_map_of_mem z), ih h2⟩
  exact this vds h.nd
theorem zip_mem {l : List Str} {p : Str × Nat} {k : Nat} (h : p ∈ l.zipIdx k) : p.1 ∈ l := by
  have := List.mem_zipIdx h
  exact this.2.2 ▸ List.getElem_mem _
end
end PU
namespace PU
open PySem CL
theorem mul_ok {S : Kn} {i j : Int} (h1 : i.natAbs < 2 ^ 60) (h2 : j.natAbs < 2 ^ 60) : Pu S (dMul (.int i) (.int j)) (.int (i * j)) := .rfl_ fun μ => by
  have l1 : i.natAbs.log2 ≤ 60 := by
    by_cases h : i.natAbs = 0
    · rw [h]; decide
    · exact Nat.le_of_lt ((Nat.log2_lt h).mpr h1)
  have l2 : j.natAbs.log2 ≤ 60 := by
    by_cases h : j.natAbs = 0
    · rw [h]; decide
    · exact Nat.le_of_lt ((Nat.log2_lt h).mpr h2)
  show (match (if i.natAbs.log2 + j.natAbs.log2 + 2 ≤ 134217728 then some (D.int (i * j)) else none) with
    | some d => Rs.ok d μ
    | none => .no) = _
  rw [if_pos (by omega)]
end PU

namespace PU
open PySem CL
theorem dec_eq {p : Prop} (a b : Decidable p) : @decide p a = @decide p b := by congr
section
variable {S : Kn} {α : Type} {env env1 : CL.Env} {x y z d : D} {a b c e o : ME} {ml mk : ML} {g : D → D → M D}
theorem cut_from (xs : List D) (k : Nat) : cutD xs (some (k : Int)) none = xs.drop k := by
  unfold cutD
  rw [HT.sIx_nat, HT.sIx_none]
  by_cases h : k ≤ xs.length
  · rw [Nat.min_eq_left h, List.take_of_length_le (by rw [List.length_drop]; exact Nat.le_refl _)]
  · rw [Nat.min_eq_right (by omega), List.drop_length, List.take_nil, List.drop_of_length_le (by omega)]
theorem cut_to (xs : List D) (k : Nat) : cutD xs none (some (k : Int)) = xs.take k := by
  unfold cutD
  rw [HT.sIx_nat, HT.sIx_none, List.drop_zero, Nat.sub_zero]
  by_cases h : k ≤ xs.length
  · rw [Nat.min_eq_left h]
  · rw [Nat.min_eq_right (by omega), List.take_length, List.take_of_length_le (by omega)]
theorem pFrom {ch : Option (Nat × D)} {xs : List D} {k : Nat} (ha : Pu S (a env) x) (hl : Ls S x xs ch) (hb : Pu S (b env) (.int (k : Nat))) : Pu S (mSl kFz a (oSome b) oNone env) (.lst (xs.drop k)) := fun μ hp => by
  obtain ⟨ν, e1⟩ := ha μ hp
  have p1 := S.ext ν hp
  obtain ⟨ν2, e2⟩ := hb _ p1
  refine ⟨ν ++ ν2, ?_⟩
  unfold mSl oSome
  rw [e1]
  show (((b env (μ ++ ν)).bind asPart).bind fun l μ2 => (oNone env μ2).bind fun h => dSl kFz x l h) = _
  rw [e2]
  show dSl kFz x (some (k : Int)) none (μ ++ ν ++ ν2) = _
  unfold dSl
  rw [hl.lst _ (S.ext ν2 p1)]
  dsimp only
  rw [cut_from, List.append_assoc]
  rfl
theorem pTo {ch : Option (Nat × D)} {xs : List D} {k : Nat} (ha : Pu S (a env) x) (hl : Ls S x xs ch) (hb : Pu S (b env) (.int (k : Nat))) : Pu S (mSl kFz a oNone (oSome b) env) (.lst (xs.take k)) := fun μ hp => by
  obtain ⟨ν, e1⟩ := ha μ hp
  have p1 := S.ext ν hp
  obtain ⟨ν2, e2⟩ := hb _ p1
  refine ⟨ν ++ ν2, ?_⟩
  unfold mSl oSome
  rw [e1]
  show ((oNone env (μ ++ ν)).bind fun l μ2 => ((b env μ2).bind asPart).bind fun h => dSl kFz x l h) = _
  show (((b env (μ ++ ν)).bind asPart).bind fun h => dSl kFz x none h) = _
  rw [e2]
  show dSl kFz x none (some (k : Int)) (μ ++ ν ++ ν2) = _
  unfold dSl
  rw [hl.lst _ (S.ext ν2 p1)]
  dsimp only
  rw [cut_to, List.append_assoc]
  rfl
def one (i : Nat) (d : D) : Kn := ⟨fun μ => μ[i]? = some (some d), fun {μ} ν h => by
  rw [List.getElem?_append_left (List.getElem?_eq_some_iff.mp h).1]
  exact h⟩
def both (S T : Kn) : Kn := ⟨fun μ => S.p μ ∧ T.p μ, fun ν h => ⟨S.ext ν h.1, T.ext ν h.2⟩⟩
theorem ls_one {i : Nat} {l : List D} : Ls (one i (.lst l)) (.cel i) l (some (i, .lst l)) := ls_cel fun _ h => h
theorem set_app {μ ν : Mem} {i : Nat} {d : Option D} (h : i < μ.length) : (μ ++ ν).set i d = μ.set i d ++ ν := List.set_append_left _ _ h
/-- xs.append(y), xs the cell i that holds l; what else is known: T -/
theorem app_ok {T : Kn} {i : Nat} {l : List D} (ho : Pu (both (one i (.lst l)) T) (o env) (.cel i)) (he : Pu (both (one i (.lst l)) T) (e env) y) (hl : l.length < lim) (μ : Mem) (h : μ[i]? = some (some (.lst l))) (hT : T.p μ) :
    ∃ ν, sExpr (mMeth "list" gAppend o (mCons e mNil)) env μ = .nx env (μ.set i (some (.lst (l ++ [y]))) ++ ν) := by
  have hi : i < μ.length := (List.getElem?_eq_some_iff.mp h).1
  obtain ⟨ν, e1⟩ := ho μ ⟨h, hT⟩
  have p1 := (both (one i (.lst l)) T).ext (μ := μ) ν ⟨h, hT⟩
  obtain ⟨ν2, e2⟩ := he _ p1
  have p2 := (both (one i (.lst l)) T).ext ν2 p1
  have g1 : (μ ++ ν)[i]? = some (some (.lst l)) := p1.1
  have g2 : (μ ++ ν ++ ν2)[i]? = some (some (.lst l)) := p2.1
  refine ⟨ν ++ ν2, ?_⟩
  have a : mMeth "list" gAppend o (mCons e mNil) env μ = .ok .non ((μ ++ ν ++ ν2).set i (some (.lst (l ++ [y])))) := by
    unfold mMeth
    rw [e1]
    show (if tyOf "list" (μ ++ ν) (.cel i) = true then ((mCons e mNil env (μ ++ ν)).bind fun ds => gAppend (.cel i) ds) else .no) = _
    rw [if_pos (show tyOf "list" (μ ++ ν) (.cel i) = true by
      unfold tyOf lstOf
      dsimp only
      rw [g1]
      rfl)]
    have ec : mCons e mNil env (μ ++ ν) = .ok [y] (μ ++ ν ++ ν2) := by
      unfold mCons
      rw [e2]
      rfl
    rw [ec]
    show gAppend (.cel i) [y] (μ ++ ν ++ ν2) = _
    unfold gAppend celL
    dsimp only
    rw [g2]
    dsimp only
    rw [if_pos hl]
  unfold sExpr
  rw [a, List.append_assoc, set_app hi]
  rfl
/-- a loop whose every turn puts one more item behind the cell i -/
theorem loop_app {xs0 : List D} {put : D → CL.Env → Option CL.Env} {body : MS} {i : Nat} {f g : α → D} (E : CL.Env → Prop) (T : Kn) (hT : ∀ μ d, T.p μ → T.p (μ.set i d)) : ∀ (l : List α), (∀ a ∈ l, ∀ env, E env → ∃ env1, put (g a) env = some env1 ∧ ∀ μ acc, μ[i]? = some (some (.lst acc)) → T.p μ → acc.length < lim →
      ∃ env2 ν, body env1 μ = .nx env2 (μ.set i (some (.lst (acc ++ [f a]))) ++ ν) ∧ E env2) →
    ∀ (env : CL.Env) (μ : Mem) (acc : List D), E env → μ[i]? = some (some (.lst acc)) → T.p μ → acc.length + l.length ≤ lim → ∃ env' ν, loopM ⟨xs0, none⟩ put body (l.map g) env μ = .nx env' (μ.set i (some (.lst (acc ++ l.map f))) ++ ν) ∧ E env'
  | [], _, env, μ, acc, hE, hm, _, _ => ⟨env, [], by
      rw [List.map_nil, List.map_nil, List.append_nil, List.append_nil]
      have : μ.set i (some (.lst acc)) = μ := by
        obtain ⟨h1, h2⟩ := List.getElem?_eq_some_iff.mp hm
        rw [← h2]
        exact List.set_getElem_self h1
      rw [this]
      rfl, hE⟩
  | a :: l, hs, env, μ, acc, hE, hm, ht, hl => by
    have hi : i < μ.length := (List.getElem?_eq_some_iff.mp hm).1
    rw [List.length_cons] at hl
    obtain ⟨env1, e1, hb⟩ := hs a List.mem_cons_self env hE
    obtain ⟨env2, ν, e2, hE2⟩ := hb μ acc hm ht (by omega)
    have hm2 : (μ.set i (some (.lst (acc ++ [f a]))) ++ ν)[i]? = some (some (.lst (acc ++ [f a]))) := by
      rw [List.getElem?_append_left (by rw [List.length_set]; exact hi), List.getElem?_set_self hi]
    obtain ⟨env', ν', e3, hE3⟩ := loop_app (f := f) E T hT l (fun b hb' => hs b (.tail _ hb')) env2 _ (acc ++ [f a]) hE2 hm2 (T.ext ν (hT _ _ ht)) (by rw [List.length_append, List.length_singleton]; omega)
    refine ⟨env', ν ++ ν', ?_, hE3⟩
    have step : loopM ⟨xs0, none⟩ put body ((a :: l).map g) env μ = (match put (g a) env with
      | none => Sr.no
      | some env1 => match body env1 μ with
        | .nx e m => loopM ⟨xs0, none⟩ put body (l.map g) e m
        | .ct e m => loopM ⟨xs0, none⟩ put body (l.map g) e m
        | .bk e m => .nx e m
        | .rt d m => .rt d m
        | .ex c x e m => .ex c x e m
        | .no => .no) := rfl
    rw [step, e1]
    dsimp only
    rw [e2]
    dsimp only
    rw [e3, set_app (by rw [List.length_set]; exact hi), List.set_set, List.map_cons]
    simp only [List.append_assoc, List.singleton_append]
/-- a new empty list -/
theorem cel_new (μ : Mem) : mCel mNil env μ = .ok (.cel μ.length) (μ ++ [some (.lst [])]) := rfl
theorem frzL_map {g : α → D} (h : ∀ a m, frz 3 (g a) m = some (g a, m)) (m : Mem) : ∀ l : List α, frzL (frz 3) (l.map g) m = some (l.map g, m)
  | [] => rfl
  | a :: l => by
    rw [List.map_cons, frzL, h]
    dsimp only
    rw [frzL_map h m l]
/-- a list of still data stands still -/
theorem frz_cel {g : α → D} (h : ∀ a m, frz 3 (g a) m = some (g a, m)) {m : Mem} {i : Nat} {l : List α} (hm : m[i]? = some (some (.lst (l.map g)))) : dFrz (.cel i) m = .ok (.lst (l.map g)) (m.set i none) := by
  unfold dFrz
  have e : frz 4 (.cel i) m = some (.lst (l.map g), m.set i none) := by
    unfold frz
    dsimp only
    rw [hm]
    dsimp only
    rw [frzL_map h]
  rw [e]
theorem set_right {μ ν : Mem} {i : Nat} {d : Option D} (h : μ.length ≤ i) : (μ ++ ν).set i d = μ ++ ν.set (i - μ.length) d := List.set_append_right _ _ h
variable {s t : MS} {μ μ1 : Mem}
theorem seq_at (h : s env μ = .nx env1 μ1) : sSeq s t env μ = t env1 μ1 := by
  unfold sSeq
  rw [h]
theorem asg_at {tg : Tgt} (h : a env μ = .ok d μ1) (hp : tg.put d env = some env1) : sAsg a tg env μ = .nx env1 μ1 := by
  unfold sAsg
  rw [h]
  show (match tg.put d env with
    | some env' => Sr.nx env' μ1
    | none => .no) = _
  rw [hp]
theorem for_at {mi : MI} {tg : Tgt} {i : Its} (h : mi env μ = .ok i μ1) : sFor mi tg s env μ = loopM i tg.put s i.items env μ1 := by
  unfold sFor
  rw [h]
  rfl
theorem ret_at (h : a env μ = .ok d μ1) : sRet a env μ = .rt d μ1 := by
  unfold sRet
  rw [h]
  rfl
theorem expr_at (h : a env μ = .ok d μ1) : sExpr a env μ = .nx env μ1 := by
  unfold sExpr
  rw [h]
  rfl
end
end PU

namespace PU
open PySem CL
section
variable {S : Kn} {α : Type} {env env1 : CL.Env} {x y z d : D} {a b c e o : ME} {ml mk : ML}
abbrev dI (i : Int) : D := .int i
abbrev iD (l : List Int) : D := .lst (l.map dI)
theorem cm_iD {l : List Int} : Cm 40 1 (iD l) (.list (l.map .int)) := cm_lst fun s _ => cm_int (n := 38)
theorem in_int {i : Int} {l : List Int} (neg : Bool) : Pu S (dIn neg (dI i) (iD l)) (.bl (neg ^^ decide (i ∈ l))) := .rfl_ fun μ => by
  have c := cm_iD (l := l)
  have e : inLst neg (dI i) (iD l) μ = .ok (.bl (neg ^^ decide (i ∈ l))) μ := by
    unfold inLst
    have p1 : pd μ 40 (dI i) = some (.int i) := rfl
    rw [p1, pd_up _ _ _ _ c.pd]
    have k1 : SeqAt.shaped (.int i) = true := by
      have q := cm_int (n := 39) (x := i)
      unfold SeqAt.shaped
      rw [q.can, decide_eq_true (Nat.le_trans q.dep (by decide))]
      rfl
    have k2 : SeqAt.shaped (.list (l.map PyData.int)) = true := by
      unfold SeqAt.shaped
      rw [c.can, decide_eq_true (Nat.le_trans c.dep (by decide))]
      rfl
    have any : ((l.map PyData.int).any fun z => PyData.eqv z (.int i)) = decide (i ∈ l) := by
      rw [Bool.eq_iff_iff, List.any_eq_true, decide_eq_true_eq]
      constructor
      · rintro ⟨z, hz, ez⟩
        obtain ⟨a, ha, rfl⟩ := List.mem_map.mp hz
        rw [PyData.eqv] at ez
        rw [← eq_of_beq ez]
        exact ha
      · intro hm
        refine ⟨.int i, List.mem_map_of_mem hm, ?_⟩
        rw [PyData.eqv]
        exact beq_self_eq_true i
    show (match lstOf μ (iD l) with
      | some _ => (if (SeqAt.shaped (.int i) && SeqAt.shaped (.list (l.map PyData.int))) = true then Rs.ok (D.bl (if neg = true then !(l.map PyData.int).any fun z => PyData.eqv z (.int i) else (l.map PyData.int).any fun z => PyData.eqv z (.int i))) μ else .no)
      | none => .no) = _
    rw [k1, k2, any]
    cases neg
    · rw [Bool.false_xor]; rfl
    · rw [Bool.true_xor]; rfl
  exact e
theorem idx_last {ch : Option (Nat × D)} {l : List D} (hl : Ls S x (l ++ [d]) ch) : Pu S (dIdx x (.int (-1))) d := .of fun μ hp => by
  unfold dIdx
  rw [hl.nd μ hp]
  dsimp only
  unfold seqIdx
  dsimp only
  rw [hl.lst μ hp]
  dsimp only
  have e : atD (l ++ [d]) (-1) = some d := by
    unfold atD L2.ixN
    rw [List.length_append, List.length_singleton, if_neg (by decide), if_pos (by omega)]
    show (l ++ [d])[((-1 : Int) + ((l.length + 1 : Nat) : Int)).toNat]? = some d
    rw [show ((-1 : Int) + ((l.length + 1 : Nat) : Int)).toNat = l.length by omega, List.getElem?_append_right (Nat.le_refl _), Nat.sub_self]
    rfl
  rw [e]
theorem idx_int {ch : Option (Nat × D)} {l : List D} {i : Int} (hl : Ls S x l ch) (h0 : 0 ≤ i) (h : l[i.toNat]? = some d) : Pu S (dIdx x (.int i)) d := .of fun μ hp => by
  have hi : i.toNat < l.length := (List.getElem?_eq_some_iff.mp h).1
  unfold dIdx
  rw [hl.nd μ hp]
  dsimp only
  unfold seqIdx
  dsimp only
  rw [hl.lst μ hp]
  dsimp only
  have e : atD l i = some d := by
    unfold atD L2.ixN
    rw [if_pos h0, if_pos (by omega)]
    exact h
  rw [e]
theorem neg_i {i : Int} : Pu S (dNeg (.int i)) (.int (-i)) := .rfl_ fun _ => rfl
theorem le_b {i j : Int} : Pu S (dLe (.int i) (.int j)) (.bl (decide (i ≤ j))) := .rfl_ fun _ => rfl
theorem gt_b {i j : Int} : Pu S (dGt (.int i) (.int j)) (.bl (decide (j < i))) := .rfl_ fun _ => rfl
theorem loop_gen {xs0 : List D} {put : D → CL.Env → Option CL.Env} {body : MS} {g : α → D} (I : List α → CL.Env → Mem → Prop) (hs : ∀ a rest env μ, I (a :: rest) env μ → ∃ env1 env2 μ2, put (g a) env = some env1 ∧ body env1 μ = .nx env2 μ2 ∧ I rest env2 μ2) :
    ∀ (l : List α) (env : CL.Env) (μ : Mem), I l env μ → ∃ env' μ', loopM ⟨xs0, none⟩ put body (l.map g) env μ = .nx env' μ' ∧ I [] env' μ'
  | [], env, μ, h => ⟨env, μ, rfl, h⟩
  | a :: l, env, μ, h => by
    obtain ⟨env1, env2, μ2, e1, e2, h2⟩ := hs a l env μ h
    obtain ⟨env', μ', e3, h3⟩ := loop_gen (xs0 := xs0) I hs l env2 μ2 h2
    refine ⟨env', μ', ?_, h3⟩
    have step : loopM ⟨xs0, none⟩ put body ((a :: l).map g) env μ = (match put (g a) env with
      | none => Sr.no
      | some env1 => match body env1 μ with
        | .nx e m => loopM ⟨xs0, none⟩ put body (l.map g) e m
        | .ct e m => loopM ⟨xs0, none⟩ put body (l.map g) e m
        | .bk e m => .nx e m
        | .rt d m => .rt d m
        | .ex c x e m => .ex c x e m
        | .no => .no) := rfl
    rw [step, e1]
    dsimp only
    rw [e2]
    exact e3
/-- turns that keep the memory -/
theorem loop_nx {xs0 : List D} {put : D → CL.Env → Option CL.Env} {body : MS} {g : α → D} (E : CL.Env → Prop) : ∀ (l : List α), (∀ a ∈ l, ∀ env, E env → ∃ env1 env2, put (g a) env = some env1 ∧ Nx S body env1 env2 ∧ E env2) →
    ∀ env, E env → ∃ env', E env' ∧ Nx S (fun env μ => loopM ⟨xs0, none⟩ put body (l.map g) env μ) env env'
  | [], _, env, hE => ⟨env, hE, fun μ _ => ⟨[], by rw [List.append_nil]; rfl⟩⟩
  | a :: l, hs, env, hE => by
    obtain ⟨env1, env2, e1, n2, hE2⟩ := hs a List.mem_cons_self env hE
    obtain ⟨env', hE', n3⟩ := loop_nx (xs0 := xs0) E l (fun b hb => hs b (.tail _ hb)) env2 hE2
    refine ⟨env', hE', fun μ hp => ?_⟩
    obtain ⟨ν, e2⟩ := n2 μ hp
    obtain ⟨ν', e3⟩ := n3 _ (S.ext ν hp)
    refine ⟨ν ++ ν', ?_⟩
    show (match put (g a) env with
      | none => Sr.no
      | some env1 => match body env1 μ with
        | .nx e m => loopM ⟨xs0, none⟩ put body (l.map g) e m
        | .ct e m => loopM ⟨xs0, none⟩ put body (l.map g) e m
        | .bk e m => .nx e m
        | .rt d m => .rt d m
        | .ex c x e m => .ex c x e m
        | .no => .no) = _
    rw [e1]
    dsimp only
    rw [e2]
    dsimp only
    rw [← List.append_assoc]
    exact e3
theorem nFor {xs : List α} {g : α → D} {mi : MI} {tg : Tgt} {body : MS} {env env' : CL.Env} (hi : Pu S (mi env) ⟨xs.map g, none⟩) (h : Nx S (fun env μ => loopM ⟨xs.map g, none⟩ tg.put body (xs.map g) env μ) env env') : Nx S (sFor mi tg body) env env' := fun μ hp => by
  obtain ⟨ν, e1⟩ := hi μ hp
  obtain ⟨ν', e2⟩ := h _ (S.ext ν hp)
  exact ⟨ν ++ ν', by rw [for_at e1, ← List.append_assoc]; exact e2⟩
/-- the memory grew -/
def Gr (μ μ' : Mem) : Prop := ∃ ν, μ' = μ ++ ν
theorem Gr.refl {μ : Mem} : Gr μ μ := ⟨[], (List.append_nil _).symm⟩
theorem Gr.app {μ μ' ν : Mem} (h : Gr μ μ') : Gr μ (μ' ++ ν) := let ⟨ρ, e⟩ := h; ⟨ρ ++ ν, by rw [e, List.append_assoc]⟩
theorem Gr.set {μ μ' : Mem} {i : Nat} {d : Option D} (h : Gr μ μ') (hi : μ.length ≤ i) : Gr μ (μ'.set i d) := let ⟨ρ, e⟩ := h; ⟨ρ.set (i - μ.length) d, by rw [e, set_right hi]⟩
theorem Gr.trans {μ μ' μ2 : Mem} (h : Gr μ μ') (h2 : Gr μ' μ2) : Gr μ μ2 := let ⟨ρ, e⟩ := h; let ⟨τ, e2⟩ := h2; ⟨ρ ++ τ, by rw [e2, e, List.append_assoc]⟩
theorem Gr.len {μ μ' : Mem} (h : Gr μ μ') : μ.length ≤ μ'.length := let ⟨ρ, e⟩ := h; by rw [e, List.length_append]; omega
theorem Gr.kn {S : Kn} {μ μ' : Mem} (h : Gr μ μ') (hp : S.p μ) : S.p μ' := let ⟨ρ, e⟩ := h; e ▸ S.ext ρ hp
theorem Pu.gr {m : M α} {a : α} (h : Pu S m a) {μ : Mem} (hp : S.p μ) : ∃ μ', m μ = .ok a μ' ∧ Gr μ μ' := let ⟨ν, e⟩ := h μ hp; ⟨_, e, ν, rfl⟩
theorem pu_of_gr {m : M α} {a : α} (h : ∀ μ, S.p μ → ∃ μ', m μ = .ok a μ' ∧ Gr μ μ') : Pu S m a := fun μ hp => by
  obtain ⟨μ', e, ν, rfl⟩ := h μ hp
  exact ⟨ν, e⟩
theorem Rt.of_gr {s : MS} (h : ∀ μ, S.p μ → ∃ μ', s env μ = .rt d μ' ∧ Gr μ μ') : Rt S s env d := fun μ hp => by
  obtain ⟨μ', e, ν, rfl⟩ := h μ hp
  exact ⟨ν, e⟩
/-- xs.remove(k) -/
theorem rem_ok {T : Kn} {i : Nat} {l : List Int} {k : Int} (ho : Pu (both (one i (iD l)) T) (o env) (.cel i)) (he : Pu (both (one i (iD l)) T) (e env) (dI k)) (hk : k ∈ l) (μ : Mem) (h : μ[i]? = some (some (iD l))) (hT : T.p μ) :
    ∃ ν, sExpr (mMeth "list" gRemove o (mCons e mNil)) env μ = .nx env (μ.set i (some (iD (l.erase k))) ++ ν) := by
  have hi : i < μ.length := (List.getElem?_eq_some_iff.mp h).1
  obtain ⟨ν, e1⟩ := ho μ ⟨h, hT⟩
  have p1 := (both (one i (iD l)) T).ext (μ := μ) ν ⟨h, hT⟩
  obtain ⟨ν2, e2⟩ := he _ p1
  have p2 := (both (one i (iD l)) T).ext ν2 p1
  have g1 : (μ ++ ν)[i]? = some (some (iD l)) := p1.1
  have g2 : (μ ++ ν ++ ν2)[i]? = some (some (iD l)) := p2.1
  refine ⟨ν ++ ν2, ?_⟩
  have ei : asInts (l.map dI) = some l := by
    have : ∀ l : List Int, asInts (l.map dI) = some l := fun l => by
      induction l with
      | nil => rfl
      | cons s l ih => rw [List.map_cons, asInts, ih]; rfl
    exact this l
  have a : mMeth "list" gRemove o (mCons e mNil) env μ = .ok .non ((μ ++ ν ++ ν2).set i (some (iD (l.erase k)))) := by
    unfold mMeth
    rw [e1]
    show (if tyOf "list" (μ ++ ν) (.cel i) = true then ((mCons e mNil env (μ ++ ν)).bind fun ds => gRemove (.cel i) ds) else .no) = _
    rw [if_pos (show tyOf "list" (μ ++ ν) (.cel i) = true by
      unfold tyOf lstOf
      dsimp only
      rw [g1]
      rfl)]
    have ec : mCons e mNil env (μ ++ ν) = .ok [dI k] (μ ++ ν ++ ν2) := by
      unfold mCons
      rw [e2]
      rfl
    rw [ec]
    show gRemove (.cel i) [dI k] (μ ++ ν ++ ν2) = _
    unfold gRemove celL
    dsimp only
    rw [g2]
    dsimp only
    rw [ei]
    dsimp only
    rw [if_pos hk]
  unfold sExpr
  rw [a, List.append_assoc, set_app hi]
  rfl
end
structure Fit (st gs : List Int) : Prop where
  lo : ∀ g ∈ gs, ∃ s ∈ st, s ≤ g
  hi : ∀ g ∈ gs, ∃ s ∈ st, g < s
  mid : ∀ h ∈ gs, ∀ g ∈ gs, h < g → ∃ s ∈ st, h < s ∧ s ≤ g
  inc : st.Pairwise (· < ·)
def lft (st : List Int) (g : Int) : Int := ((st.filter fun s => decide (s ≤ g)).getLast?).getD 0
def rgt (st : List Int) (g : Int) : Int := ((st.filter fun s => decide (g < s)).head?).getD 0
theorem lft_ok {st gs : List Int} {g : Int} (F : Fit st gs) (hg : g ∈ gs) : (∃ a, st.filter (fun s => decide (s ≤ g)) = a ++ [lft st g]) ∧ lft st g ∈ st ∧ lft st g ≤ g ∧ ∀ s ∈ st, s ≤ g → s ≤ lft st g := by
  obtain ⟨s, hs, hle⟩ := F.lo g hg
  have hm : s ∈ st.filter fun s => decide (s ≤ g) := List.mem_filter.mpr ⟨hs, decide_eq_true hle⟩
  have ne : st.filter (fun s => decide (s ≤ g)) ≠ [] := List.ne_nil_of_mem hm
  have e : lft st g = (st.filter fun s => decide (s ≤ g)).getLast ne := by
    unfold lft
    rw [List.getLast?_eq_some_getLast ne]
    rfl
  have sp : st.filter (fun s => decide (s ≤ g)) = (st.filter fun s => decide (s ≤ g)).dropLast ++ [lft st g] := by rw [e, List.dropLast_concat_getLast]
  have mm : lft st g ∈ st.filter fun s => decide (s ≤ g) := by rw [e]; exact List.getLast_mem ne
  obtain ⟨m1, m2⟩ := List.mem_filter.mp mm
  refine ⟨⟨_, sp⟩, m1, of_decide_eq_true m2, fun t ht htg => ?_⟩
  have tm : t ∈ st.filter fun s => decide (s ≤ g) := List.mem_filter.mpr ⟨ht, decide_eq_true htg⟩
  have pw : (st.filter fun s => decide (s ≤ g)).Pairwise (· < ·) := F.inc.filter _
  rw [sp] at pw tm
  rcases List.mem_append.mp tm with h | h
  · exact Int.le_of_lt ((List.pairwise_append.mp pw).2.2 t h _ (List.mem_singleton_self _))
  · rw [List.mem_singleton.mp h]
    exact Int.le_refl _
theorem rgt_ok {st gs : List Int} {g : Int} (F : Fit st gs) (hg : g ∈ gs) : (∃ b, st.filter (fun s => decide (g < s)) = rgt st g :: b) ∧ rgt st g ∈ st ∧ g < rgt st g ∧ ∀ s ∈ st, g < s → rgt st g ≤ s := by
  obtain ⟨s, hs, hle⟩ := F.hi g hg
  have hm : s ∈ st.filter fun s => decide (g < s) := List.mem_filter.mpr ⟨hs, decide_eq_true hle⟩
  have ne : st.filter (fun s => decide (g < s)) ≠ [] := List.ne_nil_of_mem hm
  obtain ⟨r, b, eb⟩ := List.exists_cons_of_ne_nil ne
  have e : rgt st g = r := by
    unfold rgt
    rw [eb]
    rfl
  have mm : r ∈ st.filter fun s => decide (g < s) := by rw [eb]; exact List.mem_cons_self
  obtain ⟨m1, m2⟩ := List.mem_filter.mp mm
  rw [e]
  refine ⟨⟨b, eb⟩, m1, of_decide_eq_true m2, fun t ht htg => ?_⟩
  have tm : t ∈ st.filter fun s => decide (g < s) := List.mem_filter.mpr ⟨ht, decide_eq_true htg⟩
  have pw : (st.filter fun s => decide (g < s)).Pairwise (· < ·) := F.inc.filter _
  rw [eb] at pw tm
  rcases List.mem_cons.mp tm with h | h
  · rw [h]; exact Int.le_refl _
  · exact Int.le_of_lt ((List.pairwise_cons.mp pw).1 t h)
/-- one falls -/
theorem Fit.step {st gs : List Int} {g x : Int} (F : Fit st (g :: gs)) (hn : g ∉ gs) (hx : x = lft st g ∨ x = rgt st g) : Fit (st.erase x) gs := by
  obtain ⟨_, l1, l2, l3⟩ := lft_ok F List.mem_cons_self
  obtain ⟨_, r1, r2, r3⟩ := rgt_ok F List.mem_cons_self
  have nd : st.Nodup := F.inc.imp fun h => Int.ne_of_lt h
  have keep : ∀ s, s ∈ st → s ≠ x → s ∈ st.erase x := fun s hs hne => (List.mem_erase_of_ne hne).mpr hs
  have ne : ∀ h ∈ gs, h ≠ g := fun h hh z => hn (z ▸ hh)
  refine ⟨fun k hk => ?_, fun k hk => ?_, fun h hh k hk hlt => ?_, F.inc.sublist (List.erase_sublist)⟩
  · obtain ⟨s, hs, hle⟩ := F.lo k (.tail _ hk)
    by_cases e : s = x
    · -- another one at most k
      rcases Int.lt_or_gt_of_ne (ne k hk) with q | q
      · obtain ⟨t, ht, t1, t2⟩ := F.mid k (.tail _ hk) g List.mem_cons_self q
        have tl := l3 t ht t2
        rcases hx with z | z
        · exact absurd hle (by omega)
        · exact absurd hle (by omega)
      · obtain ⟨t, ht, t1, t2⟩ := F.mid g List.mem_cons_self k (.tail _ hk) q
        rcases hx with z | z
        · exact ⟨t, keep t ht (by omega), t2⟩
        · exact ⟨lft st g, keep _ l1 (by omega), by omega⟩
    · exact ⟨s, keep s hs e, hle⟩
  · obtain ⟨s, hs, hle⟩ := F.hi k (.tail _ hk)
    by_cases e : s = x
    · rcases Int.lt_or_gt_of_ne (ne k hk) with q | q
      · obtain ⟨t, ht, t1, t2⟩ := F.mid k (.tail _ hk) g List.mem_cons_self q
        rcases hx with z | z
        · exact ⟨rgt st g, keep _ r1 (by omega), by omega⟩
        · exact ⟨t, keep t ht (by omega), t1⟩
      · obtain ⟨t, ht, t1, t2⟩ := F.mid g List.mem_cons_self k (.tail _ hk) q
        have tr := r3 t ht t1
        rcases hx with z | z
        · exact absurd hle (by omega)
        · exact absurd hle (by omega)
    · exact ⟨s, keep s hs e, hle⟩
  · obtain ⟨s, hs, s1, s2⟩ := F.mid h (.tail _ hh) k (.tail _ hk) hlt
    by_cases e : s = x
    · rcases hx with z | z
      · -- s is the left one: h < s ≤ g
        rcases Int.lt_or_gt_of_ne (ne k hk) with q | q
        · obtain ⟨t, ht, t1, t2⟩ := F.mid k (.tail _ hk) g List.mem_cons_self q
          have := l3 t ht t2
          omega
        · obtain ⟨t, ht, t1, t2⟩ := F.mid g List.mem_cons_self k (.tail _ hk) q
          exact ⟨t, keep t ht (by omega), by omega, t2⟩
      · rcases Int.lt_or_gt_of_ne (ne h hh) with q | q
        · obtain ⟨t, ht, t1, t2⟩ := F.mid h (.tail _ hh) g List.mem_cons_self q
          exact ⟨t, keep t ht (by omega), t1, by omega⟩
        · obtain ⟨t, ht, t1, t2⟩ := F.mid g List.mem_cons_self h (.tail _ hh) q
          have := r3 t ht t1
          omega
    · exact ⟨s, keep s hs e, s1, s2⟩
def rng (n : Nat) : List Int := (List.range n).map fun i : Nat => (i : Int)
theorem rng_D (n : Nat) : rangeL 0 (n : Nat) = (rng n).map dI := by
  unfold rangeL rng
  rw [List.map_map]
  simp only [Int.sub_zero, Int.toNat_natCast]
  refine List.map_congr_left fun i _ => ?_
  show D.int (0 + (i : Int)) = _
  rw [Int.zero_add]
  rfl
theorem lrg_ok {n : Nat} (h : n ≤ 1000) (μ : Mem) : dLrg kCe [.int (n : Nat)] μ = .ok (.cel μ.length) (μ ++ [some (iD (rng n))]) := by
  have h0 : -(2 ^ 62) ≤ ((n : Nat) : Int) := Int.le_trans (by decide) (Int.natCast_nonneg n)
  have h1 : ((n : Nat) : Int) < 2 ^ 62 := Int.lt_of_le_of_lt (show ((n : Nat) : Int) ≤ 1000 by omega) (by decide)
  have h2 : ((n : Nat) : Int).toNat ≤ lim := by
    rw [Int.toNat_natCast]
    exact lim_of h
  simp only [dLrg]
  rw [if_pos ⟨h0, h1, h2⟩, rng_D]
  rfl
end PU

set_option maxHeartbeats 0
namespace Gk12
open PySem L2 PySem.Spec PyProof.Rows CL
def top (i : Nat) : Stmt := PySem.Challenge.pw_lastinrow_k12_rows_and_plays_by_names.main.body.getD i (.Pass ⟨0, 0, 0, 0⟩)
abbrev st_is_name : Stmt := top 13
abbrev st_is_name_list : Stmt := top 14
abbrev st_is_pair : Stmt := top 15
abbrev st_is_pair_list : Stmt := top 16
abbrev st_Row___init__ : Stmt := inClass (top 18) 0
abbrev st_Row_players : Stmt := inClass (top 18) 1
abbrev st_all_pairs : Stmt := top 17
abbrev st_Row_verdicts : Stmt := inClass (top 18) 2
abbrev st_Row___eq__ : Stmt := inClass (top 18) 12
abbrev st_Row___len__ : Stmt := inClass (top 18) 11
abbrev st_Stand_gaps : Stmt := inClass (top 30) 2
abbrev st_Stand___eq__ : Stmt := inClass (top 30) 10
abbrev st_Row_has : Stmt := inClass (top 18) 3
abbrev st_Row_place : Stmt := inClass (top 18) 4
abbrev st_Row_beats : Stmt := inClass (top 18) 5
abbrev st_is_whole : Stmt := top 21
abbrev st_sides : Stmt := top 25
abbrev st_Stand_between : Stmt := inClass (top 30) 3
abbrev st_Stand_play : Stmt := inClass (top 30) 4
abbrev st_Stand___init__ : Stmt := inClass (top 30) 0
abbrev st_order_errors : Stmt := top 23
abbrev st_check_order : Stmt := top 24
abbrev st_history_of : Stmt := top 26
abbrev st_lots_of : Stmt := top 27
abbrev st_last_of : Stmt := top 28
abbrev st__law_plays_right : Stmt := top 35
abbrev st__law_pool : Stmt := top 32
abbrev st_Row_beaten : Stmt := inClass (top 18) 6
abbrev st_Row_called : Stmt := inClass (top 18) 8
abbrev st_is_lot : Stmt := top 19
abbrev st_Row_part : Stmt := inClass (top 18) 10
abbrev st_Row_turned : Stmt := inClass (top 18) 7
abbrev st__law_rows_right : Stmt := top 34
abbrev st__law_take : Stmt := top 33
abbrev st__law_won : Stmt := top 36
abbrev st_law : Stmt := top 37
abbrev st_NoPlayers : Stmt := inClass (top 2) 0
abbrev xr_NoPlayers : XR := ⟨"NoPlayers", "thing", tVE, "ValueError.__new__"⟩
abbrev st_NoVerdicts : Stmt := inClass (top 3) 0
abbrev xr_NoVerdicts : XR := ⟨"NoVerdicts", "thing", tVE, "ValueError.__new__"⟩
abbrev st_NoPairs : Stmt := inClass (top 4) 0
abbrev xr_NoPairs : XR := ⟨"NoPairs", "thing", tVE, "ValueError.__new__"⟩
abbrev st_NoLot : Stmt := inClass (top 5) 0
abbrev xr_NoLot : XR := ⟨"NoLot", "thing", tVE, "ValueError.__new__"⟩
abbrev st_NoPlayer : Stmt := inClass (top 6) 0
abbrev xr_NoPlayer : XR := ⟨"NoPlayer", "player", keTail, "LookupError.__new__"⟩
abbrev st_NoGap : Stmt := inClass (top 7) 0
abbrev xr_NoGap : XR := ⟨"NoGap", "gap", tIE, "IndexError.__new__"⟩
abbrev st_NoOrder : Stmt := inClass (top 8) 0
abbrev xr_NoOrder : XR := ⟨"NoOrder", "at", tIE, "IndexError.__new__"⟩
def xrs : List XR := [xr_NoPlayers, xr_NoVerdicts, xr_NoPairs, xr_NoLot, xr_NoPlayer, xr_NoGap, xr_NoOrder]
def nm_ValueError : List Str := ["NoPlayers", "NoVerdicts", "NoPairs", "NoLot"]
def nm_KeyError : List Str := ["NoPlayer"]
def nm_IndexError : List Str := ["NoGap", "NoOrder"]
def nm_LookupError : List Str := ["NoPlayer", "NoGap", "NoOrder"]
def nm_OverflowError : List Str := []
def bss : List (String × List Str) := [("ValueError", nm_ValueError), ("KeyError", nm_KeyError), ("IndexError", nm_IndexError), ("LookupError", nm_LookupError), ("OverflowError", nm_OverflowError)]
abbrev kr_Row : KR := ⟨"Row", ["own_places", "own_verdicts"], ["__init__", "players", "verdicts", "__eq__", "__len__", "has", "place", "beats", "beaten", "called", "part", "turned"]⟩
abbrev kr_Stand : KR := ⟨"Stand", ["own_plays", "own_row", "own_standing"], ["gaps", "__eq__", "between", "play", "__init__"]⟩
def krs : List KR := [kr_Row, kr_Stand]
theorem mem_Row : kr_Row ∈ krs := List.mem_of_getElem? (i := 0) rfl
theorem mem_Stand : kr_Stand ∈ krs := List.mem_of_getElem? (i := 1) rfl
def ets : List ((Str × Option Str) × Str) := [(("Stand", some "__init__"), "played")]
/-- what the module holds -/
structure Fs (K : PySem.W.Frag) (mg : Str → Option Value) : Prop where
  xf : XFs K mg xrs bss
  kf : KFs K mg krs
  et : ∀ p ∈ ets, ∀ (H : Hp) (Lv : Addr → Prop), FzT K H Lv (kwdAt p.1 p.2 K) []
  f_abs : mg "abs" = none
  f_all : mg "all" = none
  f_bool : mg "bool" = none
  f_dict : mg "dict" = none
  f_enumerate : mg "enumerate" = none
  f_int : mg "int" = none
  f_isinstance : mg "isinstance" = none
  f_len : mg "len" = none
  f_list : mg "list" = none
  f_max : mg "max" = none
  f_min : mg "min" = none
  f_range : mg "range" = none
  f_set : mg "set" = none
  f_sorted : mg "sorted" = none
  f_str : mg "str" = none
  f_tuple : mg "tuple" = none
  f_zip : mg "zip" = none
  c_LETTERS : ∃ t, mg "LETTERS" = some (.str "abcdefghijklmnopqrstuvwxyz" t)
  c_MOST : ∃ t, mg "MOST" = some (.int (24) t)
  c_SIGNS : ∃ t, mg "SIGNS" = some (.str "abcdefghijklmnopqrstuvwxyz0123456789" t)
  d_is_name : ∃ fd, FunD K "is_name" "is_name" (defArgs st_is_name) (defBody st_is_name) (defScope st_is_name) [] [] (He.ga K "is_name") fd
  g_is_name : mg "is_name" = some (.ref (He.ga K "is_name"))
  d_is_name_list : ∃ fd, FunD K "is_name_list" "is_name_list" (defArgs st_is_name_list) (defBody st_is_name_list) (defScope st_is_name_list) [] [] (He.ga K "is_name_list") fd
  g_is_name_list : mg "is_name_list" = some (.ref (He.ga K "is_name_list"))
  d_is_pair : ∃ fd, FunD K "is_pair" "is_pair" (defArgs st_is_pair) (defBody st_is_pair) (defScope st_is_pair) [] [] (He.ga K "is_pair") fd
  g_is_pair : mg "is_pair" = some (.ref (He.ga K "is_pair"))
  d_is_pair_list : ∃ fd, FunD K "is_pair_list" "is_pair_list" (defArgs st_is_pair_list) (defBody st_is_pair_list) (defScope st_is_pair_list) [] [] (He.ga K "is_pair_list") fd
  g_is_pair_list : mg "is_pair_list" = some (.ref (He.ga K "is_pair_list"))
  d_Row___init__ : ∃ fd, FunD K "__init__" "Row.__init__" (defArgs st_Row___init__) (defBody st_Row___init__) (defScope st_Row___init__) [] [] (He.ma K (He.ga K "Row") "__init__") fd
  d_Row_players : ∃ fd, FunD K "players" "Row.players" (defArgs st_Row_players) (defBody st_Row_players) (defScope st_Row_players) [] [] (He.ma K (He.ga K "Row") "players") fd
  d_all_pairs : ∃ fd, FunD K "all_pairs" "all_pairs" (defArgs st_all_pairs) (defBody st_all_pairs) (defScope st_all_pairs) [] [] (He.ga K "all_pairs") fd
  g_all_pairs : mg "all_pairs" = some (.ref (He.ga K "all_pairs"))
  d_Row_verdicts : ∃ fd, FunD K "verdicts" "Row.verdicts" (defArgs st_Row_verdicts) (defBody st_Row_verdicts) (defScope st_Row_verdicts) [] [] (He.ma K (He.ga K "Row") "verdicts") fd
  d_Row___eq__ : ∃ fd, FunD K "__eq__" "Row.__eq__" (defArgs st_Row___eq__) (defBody st_Row___eq__) (defScope st_Row___eq__) [] [] (He.ma K (He.ga K "Row") "__eq__") fd
  d_Row___len__ : ∃ fd, FunD K "__len__" "Row.__len__" (defArgs st_Row___len__) (defBody st_Row___len__) (defScope st_Row___len__) [] [] (He.ma K (He.ga K "Row") "__len__") fd
  d_Stand_gaps : ∃ fd, FunD K "gaps" "Stand.gaps" (defArgs st_Stand_gaps) (defBody st_Stand_gaps) (defScope st_Stand_gaps) [] [] (He.ma K (He.ga K "Stand") "gaps") fd
  d_Stand___eq__ : ∃ fd, FunD K "__eq__" "Stand.__eq__" (defArgs st_Stand___eq__) (defBody st_Stand___eq__) (defScope st_Stand___eq__) [] [] (He.ma K (He.ga K "Stand") "__eq__") fd
  d_Row_has : ∃ fd, FunD K "has" "Row.has" (defArgs st_Row_has) (defBody st_Row_has) (defScope st_Row_has) [] [] (He.ma K (He.ga K "Row") "has") fd
  d_Row_place : ∃ fd, FunD K "place" "Row.place" (defArgs st_Row_place) (defBody st_Row_place) (defScope st_Row_place) [] [] (He.ma K (He.ga K "Row") "place") fd
  d_Row_beats : ∃ fd, FunD K "beats" "Row.beats" (defArgs st_Row_beats) (defBody st_Row_beats) (defScope st_Row_beats) [] [] (He.ma K (He.ga K "Row") "beats") fd
  d_is_whole : ∃ fd, FunD K "is_whole" "is_whole" (defArgs st_is_whole) (defBody st_is_whole) (defScope st_is_whole) [] [] (He.ga K "is_whole") fd
  g_is_whole : mg "is_whole" = some (.ref (He.ga K "is_whole"))
  d_sides : ∃ fd, FunD K "sides" "sides" (defArgs st_sides) (defBody st_sides) (defScope st_sides) [] [] (He.ga K "sides") fd
  g_sides : mg "sides" = some (.ref (He.ga K "sides"))
  d_Stand_between : ∃ fd, FunD K "between" "Stand.between" (defArgs st_Stand_between) (defBody st_Stand_between) (defScope st_Stand_between) [] [] (He.ma K (He.ga K "Stand") "between") fd
  d_Stand_play : ∃ fd, FunD K "play" "Stand.play" (defArgs st_Stand_play) (defBody st_Stand_play) (defScope st_Stand_play) [] [] (He.ma K (He.ga K "Stand") "play") fd
  d_Stand___init__ : ∃ fd, FunD K "__init__" "Stand.__init__" (defArgs st_Stand___init__) (defBody st_Stand___init__) (defScope st_Stand___init__) [] [("played", V.ref (kwdAt ("Stand", some "__init__") "played" K))] (He.ma K (He.ga K "Stand") "__init__") fd
  d_order_errors : ∃ fd, FunD K "order_errors" "order_errors" (defArgs st_order_errors) (defBody st_order_errors) (defScope st_order_errors) [] [] (He.ga K "order_errors") fd
  g_order_errors : mg "order_errors" = some (.ref (He.ga K "order_errors"))
  d_check_order : ∃ fd, FunD K "check_order" "check_order" (defArgs st_check_order) (defBody st_check_order) (defScope st_check_order) [] [] (He.ga K "check_order") fd
  g_check_order : mg "check_order" = some (.ref (He.ga K "check_order"))
  d_history_of : ∃ fd, FunD K "history_of" "history_of" (defArgs st_history_of) (defBody st_history_of) (defScope st_history_of) [] [] (He.ga K "history_of") fd
  g_history_of : mg "history_of" = some (.ref (He.ga K "history_of"))
  d_lots_of : ∃ fd, FunD K "lots_of" "lots_of" (defArgs st_lots_of) (defBody st_lots_of) (defScope st_lots_of) [] [] (He.ga K "lots_of") fd
  g_lots_of : mg "lots_of" = some (.ref (He.ga K "lots_of"))
  d_last_of : ∃ fd, FunD K "last_of" "last_of" (defArgs st_last_of) (defBody st_last_of) (defScope st_last_of) [] [] (He.ga K "last_of") fd
  g_last_of : mg "last_of" = some (.ref (He.ga K "last_of"))
  d__law_plays_right : ∃ fd, FunD K "_law_plays_right" "_law_plays_right" (defArgs st__law_plays_right) (defBody st__law_plays_right) (defScope st__law_plays_right) [] [] (He.ga K "_law_plays_right") fd
  g__law_plays_right : mg "_law_plays_right" = some (.ref (He.ga K "_law_plays_right"))
  d__law_pool : ∃ fd, FunD K "_law_pool" "_law_pool" (defArgs st__law_pool) (defBody st__law_pool) (defScope st__law_pool) [] [] (He.ga K "_law_pool") fd
  g__law_pool : mg "_law_pool" = some (.ref (He.ga K "_law_pool"))
  d_Row_beaten : ∃ fd, FunD K "beaten" "Row.beaten" (defArgs st_Row_beaten) (defBody st_Row_beaten) (defScope st_Row_beaten) [] [] (He.ma K (He.ga K "Row") "beaten") fd
  d_Row_called : ∃ fd, FunD K "called" "Row.called" (defArgs st_Row_called) (defBody st_Row_called) (defScope st_Row_called) [] [] (He.ma K (He.ga K "Row") "called") fd
  d_is_lot : ∃ fd, FunD K "is_lot" "is_lot" (defArgs st_is_lot) (defBody st_is_lot) (defScope st_is_lot) [] [] (He.ga K "is_lot") fd
  g_is_lot : mg "is_lot" = some (.ref (He.ga K "is_lot"))
  d_Row_part : ∃ fd, FunD K "part" "Row.part" (defArgs st_Row_part) (defBody st_Row_part) (defScope st_Row_part) [] [] (He.ma K (He.ga K "Row") "part") fd
  d_Row_turned : ∃ fd, FunD K "turned" "Row.turned" (defArgs st_Row_turned) (defBody st_Row_turned) (defScope st_Row_turned) [] [] (He.ma K (He.ga K "Row") "turned") fd
  d__law_rows_right : ∃ fd, FunD K "_law_rows_right" "_law_rows_right" (defArgs st__law_rows_right) (defBody st__law_rows_right) (defScope st__law_rows_right) [] [] (He.ga K "_law_rows_right") fd
  g__law_rows_right : mg "_law_rows_right" = some (.ref (He.ga K "_law_rows_right"))
  d__law_take : ∃ fd, FunD K "_law_take" "_law_take" (defArgs st__law_take) (defBody st__law_take) (defScope st__law_take) [] [] (He.ga K "_law_take") fd
  g__law_take : mg "_law_take" = some (.ref (He.ga K "_law_take"))
  d__law_won : ∃ fd, FunD K "_law_won" "_law_won" (defArgs st__law_won) (defBody st__law_won) (defScope st__law_won) [] [] (He.ga K "_law_won") fd
  g__law_won : mg "_law_won" = some (.ref (He.ga K "_law_won"))
  d_law : ∃ fd, FunD K "law" "law" (defArgs st_law) (defBody st_law) (defScope st_law) [] [] (He.ga K "law") fd
  g_law : mg "law" = some (.ref (He.ga K "law"))
  d_NoPlayers : ∃ fd, FunD K "__init__" "NoPlayers.__init__" (defArgs st_NoPlayers) (defBody st_NoPlayers) (defScope st_NoPlayers) [] [] (He.ma K (He.ga K "NoPlayers") "__init__") fd
  d_NoVerdicts : ∃ fd, FunD K "__init__" "NoVerdicts.__init__" (defArgs st_NoVerdicts) (defBody st_NoVerdicts) (defScope st_NoVerdicts) [] [] (He.ma K (He.ga K "NoVerdicts") "__init__") fd
  d_NoPairs : ∃ fd, FunD K "__init__" "NoPairs.__init__" (defArgs st_NoPairs) (defBody st_NoPairs) (defScope st_NoPairs) [] [] (He.ma K (He.ga K "NoPairs") "__init__") fd
  d_NoLot : ∃ fd, FunD K "__init__" "NoLot.__init__" (defArgs st_NoLot) (defBody st_NoLot) (defScope st_NoLot) [] [] (He.ma K (He.ga K "NoLot") "__init__") fd
  d_NoPlayer : ∃ fd, FunD K "__init__" "NoPlayer.__init__" (defArgs st_NoPlayer) (defBody st_NoPlayer) (defScope st_NoPlayer) [] [] (He.ma K (He.ga K "NoPlayer") "__init__") fd
  d_NoGap : ∃ fd, FunD K "__init__" "NoGap.__init__" (defArgs st_NoGap) (defBody st_NoGap) (defScope st_NoGap) [] [] (He.ma K (He.ga K "NoGap") "__init__") fd
  d_NoOrder : ∃ fd, FunD K "__init__" "NoOrder.__init__" (defArgs st_NoOrder) (defBody st_NoOrder) (defScope st_NoOrder) [] [] (He.ma K (He.ga K "NoOrder") "__init__") fd
theorem Fs.k_Row {K : PySem.W.Frag} {mg : Str → Option Value} (Φ : Fs K mg) : mg "Row" = some (.ref (He.ga K "Row")) := (Φ.kf.k _ mem_Row).1
theorem Fs.kc_Row {K : PySem.W.Frag} {mg : Str → Option Value} (Φ : Fs K mg) : Cls K (He.ga K "Row") := (Φ.kf.k _ mem_Row).2.cls
theorem Fs.kn_Row {K : PySem.W.Frag} {mg : Str → Option Value} (Φ : Fs K mg) : ∀ x ∈ (["own_places", "own_verdicts"] : List Str), NoAttr K (He.ga K "Row") x := (Φ.kf.k _ mem_Row).2.no
theorem Fs.km_Row___init__ {K : PySem.W.Frag} {mg : Str → Option Value} (Φ : Fs K mg) : Mk K (He.ga K "Row") (He.ma K (He.ga K "Row") "__init__") := ⟨(Φ.kf.k _ mem_Row).2.made.1, ((Φ.kf.k _ mem_Row).2.me "__init__" (by decide)).at_, ((Φ.kf.k _ mem_Row).2.me "__init__" (by decide)).fn, (Φ.kf.k _ mem_Row).2.made.2⟩
theorem Fs.km_Row_players {K : PySem.W.Frag} {mg : Str → Option Value} (Φ : Fs K mg) : Meth K (He.ga K "Row") "players" (He.ma K (He.ga K "Row") "players") := (Φ.kf.k _ mem_Row).2.me "players" (by decide)
theorem Fs.km_Row_verdicts {K : PySem.W.Frag} {mg : Str → Option Value} (Φ : Fs K mg) : Meth K (He.ga K "Row") "verdicts" (He.ma K (He.ga K "Row") "verdicts") := (Φ.kf.k _ mem_Row).2.me "verdicts" (by decide)
theorem Fs.km_Row___eq__ {K : PySem.W.Frag} {mg : Str → Option Value} (Φ : Fs K mg) : Meth K (He.ga K "Row") "__eq__" (He.ma K (He.ga K "Row") "__eq__") := (Φ.kf.k _ mem_Row).2.me "__eq__" (by decide)
theorem Fs.km_Row___len__ {K : PySem.W.Frag} {mg : Str → Option Value} (Φ : Fs K mg) : Meth K (He.ga K "Row") "__len__" (He.ma K (He.ga K "Row") "__len__") := (Φ.kf.k _ mem_Row).2.me "__len__" (by decide)
theorem Fs.km_Row_has {K : PySem.W.Frag} {mg : Str → Option Value} (Φ : Fs K mg) : Meth K (He.ga K "Row") "has" (He.ma K (He.ga K "Row") "has") := (Φ.kf.k _ mem_Row).2.me "has" (by decide)
theorem Fs.km_Row_place {K : PySem.W.Frag} {mg : Str → Option Value} (Φ : Fs K mg) : Meth K (He.ga K "Row") "place" (He.ma K (He.ga K "Row") "place") := (Φ.kf.k _ mem_Row).2.me "place" (by decide)
theorem Fs.km_Row_beats {K : PySem.W.Frag} {mg : Str → Option Value} (Φ : Fs K mg) : Meth K (He.ga K "Row") "beats" (He.ma K (He.ga K "Row") "beats") := (Φ.kf.k _ mem_Row).2.me "beats" (by decide)
theorem Fs.km_Row_beaten {K : PySem.W.Frag} {mg : Str → Option Value} (Φ : Fs K mg) : Meth K (He.ga K "Row") "beaten" (He.ma K (He.ga K "Row") "beaten") := (Φ.kf.k _ mem_Row).2.me "beaten" (by decide)
theorem Fs.km_Row_called {K : PySem.W.Frag} {mg : Str → Option Value} (Φ : Fs K mg) : Meth K (He.ga K "Row") "called" (He.ma K (He.ga K "Row") "called") := (Φ.kf.k _ mem_Row).2.me "called" (by decide)
theorem Fs.km_Row_part {K : PySem.W.Frag} {mg : Str → Option Value} (Φ : Fs K mg) : Meth K (He.ga K "Row") "part" (He.ma K (He.ga K "Row") "part") := (Φ.kf.k _ mem_Row).2.me "part" (by decide)
theorem Fs.km_Row_turned {K : PySem.W.Frag} {mg : Str → Option Value} (Φ : Fs K mg) : Meth K (He.ga K "Row") "turned" (He.ma K (He.ga K "Row") "turned") := (Φ.kf.k _ mem_Row).2.me "turned" (by decide)
theorem Fs.na_Row {K : PySem.W.Frag} {mg : Str → Option Value} (Φ : Fs K mg) (x : Str) (hx : x ∈ (["own_places", "own_verdicts"] : List Str)) : ∀ c ∈ (["Row"] : List Str), NoAt K mg c x := by
  intro c hc
  have e : c = "Row" := by simpa using hc
  subst e
  exact ⟨_, Φ.k_Row, Φ.kc_Row, Φ.kn_Row x hx⟩
theorem Fs.k_Stand {K : PySem.W.Frag} {mg : Str → Option Value} (Φ : Fs K mg) : mg "Stand" = some (.ref (He.ga K "Stand")) := (Φ.kf.k _ mem_Stand).1
theorem Fs.kc_Stand {K : PySem.W.Frag} {mg : Str → Option Value} (Φ : Fs K mg) : Cls K (He.ga K "Stand") := (Φ.kf.k _ mem_Stand).2.cls
theorem Fs.kn_Stand {K : PySem.W.Frag} {mg : Str → Option Value} (Φ : Fs K mg) : ∀ x ∈ (["own_plays", "own_row", "own_standing"] : List Str), NoAttr K (He.ga K "Stand") x := (Φ.kf.k _ mem_Stand).2.no
theorem Fs.km_Stand_gaps {K : PySem.W.Frag} {mg : Str → Option Value} (Φ : Fs K mg) : Meth K (He.ga K "Stand") "gaps" (He.ma K (He.ga K "Stand") "gaps") := (Φ.kf.k _ mem_Stand).2.me "gaps" (by decide)
theorem Fs.km_Stand___eq__ {K : PySem.W.Frag} {mg : Str → Option Value} (Φ : Fs K mg) : Meth K (He.ga K "Stand") "__eq__" (He.ma K (He.ga K "Stand") "__eq__") := (Φ.kf.k _ mem_Stand).2.me "__eq__" (by decide)
theorem Fs.km_Stand_between {K : PySem.W.Frag} {mg : Str → Option Value} (Φ : Fs K mg) : Meth K (He.ga K "Stand") "between" (He.ma K (He.ga K "Stand") "between") := (Φ.kf.k _ mem_Stand).2.me "between" (by decide)
theorem Fs.km_Stand_play {K : PySem.W.Frag} {mg : Str → Option Value} (Φ : Fs K mg) : Meth K (He.ga K "Stand") "play" (He.ma K (He.ga K "Stand") "play") := (Φ.kf.k _ mem_Stand).2.me "play" (by decide)
theorem Fs.km_Stand___init__ {K : PySem.W.Frag} {mg : Str → Option Value} (Φ : Fs K mg) : Mk K (He.ga K "Stand") (He.ma K (He.ga K "Stand") "__init__") := ⟨(Φ.kf.k _ mem_Stand).2.made.1, ((Φ.kf.k _ mem_Stand).2.me "__init__" (by decide)).at_, ((Φ.kf.k _ mem_Stand).2.me "__init__" (by decide)).fn, (Φ.kf.k _ mem_Stand).2.made.2⟩
theorem Fs.na_Stand {K : PySem.W.Frag} {mg : Str → Option Value} (Φ : Fs K mg) (x : Str) (hx : x ∈ (["own_plays", "own_row", "own_standing"] : List Str)) : ∀ c ∈ (["Stand"] : List Str), NoAt K mg c x := by
  intro c hc
  have e : c = "Stand" := by simpa using hc
  subst e
  exact ⟨_, Φ.k_Stand, Φ.kc_Stand, Φ.kn_Stand x hx⟩
theorem sc_NoPlayers : FnScope ["self", "thing"] ["self", "thing"] (defScope st_NoPlayers) := ⟨rfl, rfl, rfl, by decide +kernel, rfl, by decide +kernel, by decide +kernel⟩
theorem clP_NoPlayers {P : Program} {w : World} {K : PySem.W.Frag} {mg : Str → Option Value} {base : Heap} (Φ : Fs K mg) : ClX P w K mg base "NoPlayers" "thing" 1 [] := by
  obtain ⟨fd, fD⟩ := Φ.d_NoPlayers
  exact clX_mk (x := xr_NoPlayers) Φ.xf (List.mem_of_getElem? (i := 0) rfl) bVE fD sc_NoPlayers rfl rfl (by decide) (by decide) (fun _ => rfl) (kbX fD 2 [] fun _ _ _ _ _ _ us ws h1 h2 => match us, ws, h1, h2 with | [_, _], [], _, _ => rfl)
theorem clK_NoPlayers {P : Program} {w : World} {K : PySem.W.Frag} {mg : Str → Option Value} {base : Heap} (Φ : Fs K mg) : ClX P w K mg base "NoPlayers" "thing" 0 ["thing"] := by
  obtain ⟨fd, fD⟩ := Φ.d_NoPlayers
  exact clX_mk (x := xr_NoPlayers) Φ.xf (List.mem_of_getElem? (i := 0) rfl) bVE fD sc_NoPlayers rfl rfl (by decide) (by decide) (fun _ => rfl) (kbX fD 1 ["thing"] fun _ _ _ _ _ _ us ws h1 h2 => match us, ws, h1, h2 with | [_], [_], _, _ => rfl)
theorem sc_NoVerdicts : FnScope ["self", "thing"] ["self", "thing"] (defScope st_NoVerdicts) := ⟨rfl, rfl, rfl, by decide +kernel, rfl, by decide +kernel, by decide +kernel⟩
theorem clP_NoVerdicts {P : Program} {w : World} {K : PySem.W.Frag} {mg : Str → Option Value} {base : Heap} (Φ : Fs K mg) : ClX P w K mg base "NoVerdicts" "thing" 1 [] := by
  obtain ⟨fd, fD⟩ := Φ.d_NoVerdicts
  exact clX_mk (x := xr_NoVerdicts) Φ.xf (List.mem_of_getElem? (i := 1) rfl) bVE fD sc_NoVerdicts rfl rfl (by decide) (by decide) (fun _ => rfl) (kbX fD 2 [] fun _ _ _ _ _ _ us ws h1 h2 => match us, ws, h1, h2 with | [_, _], [], _, _ => rfl)
theorem clK_NoVerdicts {P : Program} {w : World} {K : PySem.W.Frag} {mg : Str → Option Value} {base : Heap} (Φ : Fs K mg) : ClX P w K mg base "NoVerdicts" "thing" 0 ["thing"] := by
  obtain ⟨fd, fD⟩ := Φ.d_NoVerdicts
  exact clX_mk (x := xr_NoVerdicts) Φ.xf (List.mem_of_getElem? (i := 1) rfl) bVE fD sc_NoVerdicts rfl rfl (by decide) (by decide) (fun _ => rfl) (kbX fD 1 ["thing"] fun _ _ _ _ _ _ us ws h1 h2 => match us, ws, h1, h2 with | [_], [_], _, _ => rfl)
theorem sc_NoPairs : FnScope ["self", "thing"] ["self", "thing"] (defScope st_NoPairs) := ⟨rfl, rfl, rfl, by decide +kernel, rfl, by decide +kernel, by decide +kernel⟩
theorem clP_NoPairs {P : Program} {w : World} {K : PySem.W.Frag} {mg : Str → Option Value} {base : Heap} (Φ : Fs K mg) : ClX P w K mg base "NoPairs" "thing" 1 [] := by
  obtain ⟨fd, fD⟩ := Φ.d_NoPairs
  exact clX_mk (x := xr_NoPairs) Φ.xf (List.mem_of_getElem? (i := 2) rfl) bVE fD sc_NoPairs rfl rfl (by decide) (by decide) (fun _ => rfl) (kbX fD 2 [] fun _ _ _ _ _ _ us ws h1 h2 => match us, ws, h1, h2 with | [_, _], [], _, _ => rfl)
theorem clK_NoPairs {P : Program} {w : World} {K : PySem.W.Frag} {mg : Str → Option Value} {base : Heap} (Φ : Fs K mg) : ClX P w K mg base "NoPairs" "thing" 0 ["thing"] := by
  obtain ⟨fd, fD⟩ := Φ.d_NoPairs
  exact clX_mk (x := xr_NoPairs) Φ.xf (List.mem_of_getElem? (i := 2) rfl) bVE fD sc_NoPairs rfl rfl (by decide) (by decide) (fun _ => rfl) (kbX fD 1 ["thing"] fun _ _ _ _ _ _ us ws h1 h2 => match us, ws, h1, h2 with | [_], [_], _, _ => rfl)
theorem sc_NoLot : FnScope ["self", "thing"] ["self", "thing"] (defScope st_NoLot) := ⟨rfl, rfl, rfl, by decide +kernel, rfl, by decide +kernel, by decide +kernel⟩
theorem clP_NoLot {P : Program} {w : World} {K : PySem.W.Frag} {mg : Str → Option Value} {base : Heap} (Φ : Fs K mg) : ClX P w K mg base "NoLot" "thing" 1 [] := by
  obtain ⟨fd, fD⟩ := Φ.d_NoLot
  exact clX_mk (x := xr_NoLot) Φ.xf (List.mem_of_getElem? (i := 3) rfl) bVE fD sc_NoLot rfl rfl (by decide) (by decide) (fun _ => rfl) (kbX fD 2 [] fun _ _ _ _ _ _ us ws h1 h2 => match us, ws, h1, h2 with | [_, _], [], _, _ => rfl)
theorem clK_NoLot {P : Program} {w : World} {K : PySem.W.Frag} {mg : Str → Option Value} {base : Heap} (Φ : Fs K mg) : ClX P w K mg base "NoLot" "thing" 0 ["thing"] := by
  obtain ⟨fd, fD⟩ := Φ.d_NoLot
  exact clX_mk (x := xr_NoLot) Φ.xf (List.mem_of_getElem? (i := 3) rfl) bVE fD sc_NoLot rfl rfl (by decide) (by decide) (fun _ => rfl) (kbX fD 1 ["thing"] fun _ _ _ _ _ _ us ws h1 h2 => match us, ws, h1, h2 with | [_], [_], _, _ => rfl)
theorem sc_NoPlayer : FnScope ["self", "player"] ["self", "player"] (defScope st_NoPlayer) := ⟨rfl, rfl, rfl, by decide +kernel, rfl, by decide +kernel, by decide +kernel⟩
theorem clP_NoPlayer {P : Program} {w : World} {K : PySem.W.Frag} {mg : Str → Option Value} {base : Heap} (Φ : Fs K mg) : ClX P w K mg base "NoPlayer" "player" 1 [] := by
  obtain ⟨fd, fD⟩ := Φ.d_NoPlayer
  exact clX_mk (x := xr_NoPlayer) Φ.xf (List.mem_of_getElem? (i := 4) rfl) bKE fD sc_NoPlayer rfl rfl (by decide) (by decide) (fun _ => rfl) (kbX fD 2 [] fun _ _ _ _ _ _ us ws h1 h2 => match us, ws, h1, h2 with | [_, _], [], _, _ => rfl)
theorem clK_NoPlayer {P : Program} {w : World} {K : PySem.W.Frag} {mg : Str → Option Value} {base : Heap} (Φ : Fs K mg) : ClX P w K mg base "NoPlayer" "player" 0 ["player"] := by
  obtain ⟨fd, fD⟩ := Φ.d_NoPlayer
  exact clX_mk (x := xr_NoPlayer) Φ.xf (List.mem_of_getElem? (i := 4) rfl) bKE fD sc_NoPlayer rfl rfl (by decide) (by decide) (fun _ => rfl) (kbX fD 1 ["player"] fun _ _ _ _ _ _ us ws h1 h2 => match us, ws, h1, h2 with | [_], [_], _, _ => rfl)
theorem sc_NoGap : FnScope ["self", "gap"] ["self", "gap"] (defScope st_NoGap) := ⟨rfl, rfl, rfl, by decide +kernel, rfl, by decide +kernel, by decide +kernel⟩
theorem clP_NoGap {P : Program} {w : World} {K : PySem.W.Frag} {mg : Str → Option Value} {base : Heap} (Φ : Fs K mg) : ClX P w K mg base "NoGap" "gap" 1 [] := by
  obtain ⟨fd, fD⟩ := Φ.d_NoGap
  exact clX_mk (x := xr_NoGap) Φ.xf (List.mem_of_getElem? (i := 5) rfl) bIE fD sc_NoGap rfl rfl (by decide) (by decide) (fun _ => rfl) (kbX fD 2 [] fun _ _ _ _ _ _ us ws h1 h2 => match us, ws, h1, h2 with | [_, _], [], _, _ => rfl)
theorem clK_NoGap {P : Program} {w : World} {K : PySem.W.Frag} {mg : Str → Option Value} {base : Heap} (Φ : Fs K mg) : ClX P w K mg base "NoGap" "gap" 0 ["gap"] := by
  obtain ⟨fd, fD⟩ := Φ.d_NoGap
  exact clX_mk (x := xr_NoGap) Φ.xf (List.mem_of_getElem? (i := 5) rfl) bIE fD sc_NoGap rfl rfl (by decide) (by decide) (fun _ => rfl) (kbX fD 1 ["gap"] fun _ _ _ _ _ _ us ws h1 h2 => match us, ws, h1, h2 with | [_], [_], _, _ => rfl)
theorem sc_NoOrder : FnScope ["self", "at"] ["self", "at"] (defScope st_NoOrder) := ⟨rfl, rfl, rfl, by decide +kernel, rfl, by decide +kernel, by decide +kernel⟩
theorem clP_NoOrder {P : Program} {w : World} {K : PySem.W.Frag} {mg : Str → Option Value} {base : Heap} (Φ : Fs K mg) : ClX P w K mg base "NoOrder" "at" 1 [] := by
  obtain ⟨fd, fD⟩ := Φ.d_NoOrder
  exact clX_mk (x := xr_NoOrder) Φ.xf (List.mem_of_getElem? (i := 6) rfl) bIE fD sc_NoOrder rfl rfl (by decide) (by decide) (fun _ => rfl) (kbX fD 2 [] fun _ _ _ _ _ _ us ws h1 h2 => match us, ws, h1, h2 with | [_, _], [], _, _ => rfl)
theorem clK_NoOrder {P : Program} {w : World} {K : PySem.W.Frag} {mg : Str → Option Value} {base : Heap} (Φ : Fs K mg) : ClX P w K mg base "NoOrder" "at" 0 ["at"] := by
  obtain ⟨fd, fD⟩ := Φ.d_NoOrder
  exact clX_mk (x := xr_NoOrder) Φ.xf (List.mem_of_getElem? (i := 6) rfl) bIE fD sc_NoOrder rfl rfl (by decide) (by decide) (fun _ => rfl) (kbX fD 1 ["at"] fun _ _ _ _ _ _ us ws h1 h2 => match us, ws, h1, h2 with | [_], [_], _, _ => rfl)
theorem sc_is_name : FnScope ["thing", "sign"] ["thing"] (defScope st_is_name) := ⟨rfl, rfl, rfl, by decide +kernel, rfl, by decide +kernel, by decide +kernel⟩
def b_is_name : MS := (sSeq (sIf (bOr (bNot (bVal (mUn (dIsi "str") (mVar 0)))) (bOr (bNot (bVal (mChain dLe dLe (mC (.int 1)) (mCall dLen (mCons (mVar 0) mNil)) (mC (.int 8))))) (bVal (mBin (dIn true) (mBin dIdx (mVar 0) (mC (.int 0))) (mC (.str "abcdefghijklmnopqrstuvwxyz")))))) (sRet (mC (.bl false))) sNx) (sRet (mCall (dAll fun bs => bs.all id) (mCons (mComp kFz (iAny (mVar 0)) (tgName 1) bYes (mBin (dIn false) (mVar 1) (mC (.str "abcdefghijklmnopqrstuvwxyz0123456789"))) [1]) mNil))))
def f_is_name : List D → M D := fnM 1 2 b_is_name
theorem fn_is_name {P : Program} {w : World} {K : PySem.W.Frag} {mg : Str → Option Value} {base : Heap} (Φ : Fs K mg) {fd : FuncData} (fD : FunD K "is_name" "is_name" (defArgs st_is_name) (defBody st_is_name) (defScope st_is_name) [] [] (He.ga K "is_name") fd) : FnG P w K mg base (CXn P w) 1 (He.ga K "is_name") fd ["thing"] (spM K mg 1 f_is_name) := by
  have sc := sc_is_name
  refine fn_ok fD sc_is_name rfl rfl fun cdv A outer s H E hr tk hp => ?_
  exact (ss_cons (s_if (PW.pt (sw_or (sb_not (sb_val (se_isi (by decide) (se_var (i := 0)) Φ.f_isinstance Φ.f_str boot_str))) (sw_or (sb_not (sb_chain op_le m_le op_le m_le se_int (se_callB call_lenAll m_len rfl Φ.f_len boot_len (sa_cons (se_var (i := 0)) sa_nil)) se_int)) (sw_or1 (sb_notin hr (se_idx hr (se_var (i := 0)) se_int) (se_gstr Φ.c_LETTERS)))))) (ss_one (s_ret se_bl)) ss_nil) (ss_one (s_ret (se_callB (cr_all rfl) m_all rfl Φ.f_all boot_all (sa_cons (se_comp (own := [("sign", 1)]) kFz_ok rfl sc.nd (si_any (se_var (i := 0))) (blkOk_by (by kernel_rfl)) (by decide) (fun _ _ _ _ _ => (sg_name (i := 1) sc.nd)) (fun _ _ _ _ _ => sts_nil) (fun _ _ _ _ _ => (se_in hr (se_var (i := 1)) (se_gstr Φ.c_SIGNS)))) sa_nil)))))
theorem okk_is_name_0_thing {P : Program} {w : World} {K : PySem.W.Frag} {mg : Str → Option Value} {base : Heap} (Φ : Fs K mg) : ClG P w K mg base "is_name" 1 f_is_name 0 ["thing"] (gPerm [(true, 0)]) := by
  obtain ⟨fd, fD⟩ := Φ.d_is_name
  exact ⟨⟨_, fd, ["thing"], ⟨fn_is_name Φ fD, ar_fnM⟩, Φ.g_is_name, fD.kp, BnM.perm fD 0 ["thing"] [(true, 0)] fun _ _ _ _ _ _ us ws h1 h2 => match us, ws, h1, h2 with | [], [_], _, _ => rfl⟩⟩
theorem ok_is_name {P : Program} {w : World} {K : PySem.W.Frag} {mg : Str → Option Value} {base : Heap} (Φ : Fs K mg) : ClG P w K mg base "is_name" 1 f_is_name 1 [] gPos := by
  obtain ⟨fd, fD⟩ := Φ.d_is_name
  exact ⟨⟨_, fd, ["thing"], ⟨fn_is_name Φ fD, ar_fnM⟩, Φ.g_is_name, fD.kp, BnM.pos (fD.bindsN fun _ _ _ _ _ _ us hl => match us, hl with | [_], _ => rfl) 1 rfl⟩⟩
theorem sc_is_name_list : FnScope ["thing", "least", "most", "one"] ["thing", "least", "most"] (defScope st_is_name_list) := ⟨rfl, rfl, rfl, by decide +kernel, rfl, by decide +kernel, by decide +kernel⟩
def b_is_name_list : MS := (sSeq (sIf (bOr (bNot (bVal (mUn (dIsi "list") (mVar 0)))) (bNot (bVal (mChain dLe dLe (mVar 1) (mCall dLen (mCons (mVar 0) mNil)) (mVar 2))))) (sRet (mC (.bl false))) sNx) (sRet (mAnd (mCall (dAll fun bs => bs.all id) (mCons (mComp kFz (iAny (mVar 0)) (tgName 3) bYes (mCallG 1 0 gPos f_is_name (mCons (mVar 3) mNil) mNil) [3]) mNil)) (mBin dEqA (mSetL kLen (mVar 0)) (mCall dLen (mCons (mVar 0) mNil))))))
def f_is_name_list : List D → M D := fnM 3 4 b_is_name_list
theorem fn_is_name_list {P : Program} {w : World} {K : PySem.W.Frag} {mg : Str → Option Value} {base : Heap} (Φ : Fs K mg) {fd : FuncData} (fD : FunD K "is_name_list" "is_name_list" (defArgs st_is_name_list) (defBody st_is_name_list) (defScope st_is_name_list) [] [] (He.ga K "is_name_list") fd) : FnG P w K mg base (CXn P w) 2 (He.ga K "is_name_list") fd ["thing", "least", "most"] (spM K mg 3 f_is_name_list) := by
  have sc := sc_is_name_list
  refine fn_ok fD sc_is_name_list rfl rfl fun cdv A outer s H E hr tk hp => ?_
  exact (ss_cons (s_if (PW.pt (sw_or (sb_not (sb_val (se_isi (by decide) (se_var (i := 0)) Φ.f_isinstance Φ.f_list boot_list))) (sw_or1 (sb_not (sb_chain op_le m_le op_le m_le (se_var (i := 1)) (se_callB call_lenAll m_len rfl Φ.f_len boot_len (sa_cons (se_var (i := 0)) sa_nil)) (se_var (i := 2))))))) (ss_one (s_ret se_bl)) ss_nil) (ss_one (s_ret (se_and (se_callB (cr_all rfl) m_all rfl Φ.f_all boot_all (sa_cons (se_comp (own := [("one", 3)]) kFz_ok rfl sc.nd (si_any (se_var (i := 0))) (blkOk_by (by kernel_rfl)) (by decide) (fun _ _ _ _ _ => (sg_name (i := 3) sc.nd)) (fun _ _ _ _ _ => sts_nil) (fun _ _ _ _ _ => (se_fnG (ok_is_name Φ) hr (by decide) takes0 (sc_some (sa_cons (se_var (i := 3)) sa_nil) sk_nil)))) sa_nil)) (se_one (se_cmpR (op_eqA (un64 hr)) m_eqA (se_setL hr cr_lenH use_len Φ.f_len boot_len rfl Φ.f_set (se_var (i := 0))) (se_callB call_lenAll m_len rfl Φ.f_len boot_len (sa_cons (se_var (i := 0)) sa_nil)) (by first | exact nobehind _ (by decide) (by decide) | rfl)))))))
theorem ok_is_name_list {P : Program} {w : World} {K : PySem.W.Frag} {mg : Str → Option Value} {base : Heap} (Φ : Fs K mg) : ClG P w K mg base "is_name_list" 2 f_is_name_list 3 [] gPos := by
  obtain ⟨fd, fD⟩ := Φ.d_is_name_list
  exact ⟨⟨_, fd, ["thing", "least", "most"], ⟨fn_is_name_list Φ fD, ar_fnM⟩, Φ.g_is_name_list, fD.kp, BnM.pos (fD.bindsN fun _ _ _ _ _ _ us hl => match us, hl with | [_, _, _], _ => rfl) 3 rfl⟩⟩
theorem sc_is_pair : FnScope ["thing", "players", "one"] ["thing", "players"] (defScope st_is_pair) := ⟨rfl, rfl, rfl, by decide +kernel, rfl, by decide +kernel, by decide +kernel⟩
def b_is_pair : MS := (sSeq (sIf (bOr (bNot (bVal (mUn (dIsi "tuple") (mVar 0)))) (bOr (bVal (mBin dNeA (mCall dLen (mCons (mVar 0) mNil)) (mC (.int 2)))) (bNot (bVal (mCall (dAll fun bs => bs.all id) (mCons (mComp kFz (iAny (mVar 0)) (tgName 2) bYes (mUn (dIsi "str") (mVar 2)) [2]) mNil)))))) (sRet (mC (.bl false))) sNx) (sRet (mAnd (mBin dNeA (mBin dIdx (mVar 0) (mC (.int 0))) (mBin dIdx (mVar 0) (mC (.int 1)))) (mAnd (mBin (dIn false) (mBin dIdx (mVar 0) (mC (.int 0))) (mVar 1)) (mBin (dIn false) (mBin dIdx (mVar 0) (mC (.int 1))) (mVar 1))))))
def f_is_pair : List D → M D := fnM 2 3 b_is_pair
theorem fn_is_pair {P : Program} {w : World} {K : PySem.W.Frag} {mg : Str → Option Value} {base : Heap} (Φ : Fs K mg) {fd : FuncData} (fD : FunD K "is_pair" "is_pair" (defArgs st_is_pair) (defBody st_is_pair) (defScope st_is_pair) [] [] (He.ga K "is_pair") fd) : FnG P w K mg base (CXn P w) 1 (He.ga K "is_pair") fd ["thing", "players"] (spM K mg 2 f_is_pair) := by
  have sc := sc_is_pair
  refine fn_ok fD sc_is_pair rfl rfl fun cdv A outer s H E hr tk hp => ?_
  exact (ss_cons (s_if (PW.pt (sw_or (sb_not (sb_val (se_isi (by decide) (se_var (i := 0)) Φ.f_isinstance Φ.f_tuple boot_tuple))) (sw_or (sb_cmpR (op_neA (un64 hr)) m_neA (se_callB call_lenAll m_len rfl Φ.f_len boot_len (sa_cons (se_var (i := 0)) sa_nil)) se_int (by first | exact nobehind _ (by decide) (by decide) | rfl)) (sw_or1 (sb_not (sb_val (se_callB (cr_all rfl) m_all rfl Φ.f_all boot_all (sa_cons (se_comp (own := [("one", 2)]) kFz_ok rfl sc.nd (si_any (se_var (i := 0))) (blkOk_by (by kernel_rfl)) (by decide) (fun _ _ _ _ _ => (sg_name (i := 2) sc.nd)) (fun _ _ _ _ _ => sts_nil) (fun _ _ _ _ _ => (se_isi (by decide) (se_var (i := 2)) Φ.f_isinstance Φ.f_str boot_str))) sa_nil)))))))) (ss_one (s_ret se_bl)) ss_nil) (ss_one (s_ret (se_and (se_cmpR (op_neA (un64 hr)) m_neA (se_idx hr (se_var (i := 0)) se_int) (se_idx hr (se_var (i := 0)) se_int) (by first | exact nobehind _ (by decide) (by decide) | rfl)) (se_and (se_in hr (se_idx hr (se_var (i := 0)) se_int) (se_var (i := 1))) (se_one (se_in hr (se_idx hr (se_var (i := 0)) se_int) (se_var (i := 1)))))))))
theorem ok_is_pair {P : Program} {w : World} {K : PySem.W.Frag} {mg : Str → Option Value} {base : Heap} (Φ : Fs K mg) : ClG P w K mg base "is_pair" 1 f_is_pair 2 [] gPos := by
  obtain ⟨fd, fD⟩ := Φ.d_is_pair
  exact ⟨⟨_, fd, ["thing", "players"], ⟨fn_is_pair Φ fD, ar_fnM⟩, Φ.g_is_pair, fD.kp, BnM.pos (fD.bindsN fun _ _ _ _ _ _ us hl => match us, hl with | [_, _], _ => rfl) 2 rfl⟩⟩
theorem sc_is_pair_list : FnScope ["thing", "players", "one"] ["thing", "players"] (defScope st_is_pair_list) := ⟨rfl, rfl, rfl, by decide +kernel, rfl, by decide +kernel, by decide +kernel⟩
def b_is_pair_list : MS := (sSeq (sIf (bOr (bNot (bVal (mUn (dIsi "list") (mVar 0)))) (bNot (bVal (mCall (dAll fun bs => bs.all id) (mCons (mComp kFz (iAny (mVar 0)) (tgName 2) bYes (mCallG 2 0 gPos f_is_pair (mCons (mVar 2) (mCons (mVar 1) mNil)) mNil) [2]) mNil))))) (sRet (mC (.bl false))) sNx) (sRet (mBin dEqA (mSetC kLen (iAny (mVar 0)) (tgName 2) bYes (mTup (mCons (mCall (dMMx minI minS) (mCons (mVar 2) mNil)) (mCons (mCall (dMMx maxI maxS) (mCons (mVar 2) mNil)) mNil))) [2]) (mCall dLen (mCons (mVar 0) mNil)))))
def f_is_pair_list : List D → M D := fnM 2 3 b_is_pair_list
theorem fn_is_pair_list {P : Program} {w : World} {K : PySem.W.Frag} {mg : Str → Option Value} {base : Heap} (Φ : Fs K mg) {fd : FuncData} (fD : FunD K "is_pair_list" "is_pair_list" (defArgs st_is_pair_list) (defBody st_is_pair_list) (defScope st_is_pair_list) [] [] (He.ga K "is_pair_list") fd) : FnG P w K mg base (CXn P w) 2 (He.ga K "is_pair_list") fd ["thing", "players"] (spM K mg 2 f_is_pair_list) := by
  have sc := sc_is_pair_list
  refine fn_ok fD sc_is_pair_list rfl rfl fun cdv A outer s H E hr tk hp => ?_
  exact (ss_cons (s_if (PW.pt (sw_or (sb_not (sb_val (se_isi (by decide) (se_var (i := 0)) Φ.f_isinstance Φ.f_list boot_list))) (sw_or1 (sb_not (sb_val (se_callB (cr_all rfl) m_all rfl Φ.f_all boot_all (sa_cons (se_comp (own := [("one", 2)]) kFz_ok rfl sc.nd (si_any (se_var (i := 0))) (blkOk_by (by kernel_rfl)) (by decide) (fun _ _ _ _ _ => (sg_name (i := 2) sc.nd)) (fun _ _ _ _ _ => sts_nil) (fun _ _ _ _ _ => (se_fnG (ok_is_pair Φ) hr (by decide) takes0 (sc_some (sa_cons (se_var (i := 2)) (sa_cons (se_var (i := 1)) sa_nil)) sk_nil)))) sa_nil))))))) (ss_one (s_ret se_bl)) ss_nil) (ss_one (s_ret (se_cmpR (op_eqA (un64 hr)) m_eqA (se_setC (own := [("one", 2)]) hr cr_lenH use_len Φ.f_len boot_len rfl sc.nd (si_any (se_var (i := 0))) (blkOk_by (by kernel_rfl)) (by decide) (fun _ _ _ _ _ => (sg_name (i := 2) sc.nd)) (fun _ _ _ _ _ => sts_nil) (fun _ _ _ _ _ => (se_tup (sa_cons (se_callB (call_minX rfl) m_mmx rfl Φ.f_min boot_min (sa_cons (se_var (i := 2)) sa_nil)) (sa_cons (se_callB (call_maxX rfl) m_mmx rfl Φ.f_max boot_max (sa_cons (se_var (i := 2)) sa_nil)) sa_nil))))) (se_callB call_lenAll m_len rfl Φ.f_len boot_len (sa_cons (se_var (i := 0)) sa_nil)) (by first | exact nobehind _ (by decide) (by decide) | rfl)))))
theorem ok_is_pair_list {P : Program} {w : World} {K : PySem.W.Frag} {mg : Str → Option Value} {base : Heap} (Φ : Fs K mg) : ClG P w K mg base "is_pair_list" 2 f_is_pair_list 2 [] gPos := by
  obtain ⟨fd, fD⟩ := Φ.d_is_pair_list
  exact ⟨⟨_, fd, ["thing", "players"], ⟨fn_is_pair_list Φ fD, ar_fnM⟩, Φ.g_is_pair_list, fD.kp, BnM.pos (fD.bindsN fun _ _ _ _ _ _ us hl => match us, hl with | [_, _], _ => rfl) 2 rfl⟩⟩
theorem sc_Row___init__ : FnScope ["self", "players", "verdicts", "place", "player", "verdict"] ["self", "players", "verdicts"] (defScope st_Row___init__) := ⟨rfl, rfl, rfl, by decide +kernel, rfl, by decide +kernel, by decide +kernel⟩
def b_Row___init__ : MS := (sSeq (sIf (bNot (bVal (mCallG 3 0 gPos f_is_name_list (mCons (mVar 1) (mCons (mC (.int 1)) (mCons (mC (.int (24))) mNil))) mNil))) (sRaise "NoPlayers" (mVar 1)) sNx) (sSeq (sIf (bOr (bNot (bVal (mCallG 2 0 gPos f_is_pair_list (mCons (mVar 2) (mCons (mVar 1) mNil)) mNil))) (bVal (mBin dNeA (mBin dMul (mC (.int 2)) (mCall dLen (mCons (mVar 2) mNil))) (mBin dMul (mCall dLen (mCons (mVar 1) mNil)) (mBin dSub (mCall dLen (mCons (mVar 1) mNil)) (mC (.int 1))))))) (sRaise "NoVerdicts" (mVar 2)) sNx) (sSeq (CL.sFld ["Row"] "own_places" (mVar 0) (mDictC false (kDFz false) (iEnumM (mCons (mVar 1) mNil)) (tgTup [3, 4]) bYes (mVar 4) (mVar 3) [3, 4])) (CL.sFld ["Row"] "own_verdicts" (mVar 0) (mDictC true (kDFz true) (iAny (mVar 2)) (tgName 5) bYes (mVar 5) (mC (.bl true)) [5])))))
def f_Row___init__ : List D → M D := fnM 3 6 b_Row___init__
theorem fn_Row___init__ {P : Program} {w : World} {K : PySem.W.Frag} {mg : Str → Option Value} {base : Heap} (Φ : Fs K mg) {fd : FuncData} (fD : FunD K "__init__" "Row.__init__" (defArgs st_Row___init__) (defBody st_Row___init__) (defScope st_Row___init__) [] [] (He.ma K (He.ga K "Row") "__init__") fd) : FnG P w K mg base (CXn P w) 3 (He.ma K (He.ga K "Row") "__init__") fd ["self", "players", "verdicts"] (spM K mg 3 f_Row___init__) := by
  have sc := sc_Row___init__
  refine fn_ok fD sc_Row___init__ rfl rfl fun cdv A outer s H E hr tk hp => ?_
  exact (ss_cons (s_if (sb_not (sb_val (se_fnG (ok_is_name_list Φ) hr (by decide) tk (sc_some (sa_cons (se_var (i := 1)) (sa_cons se_int (sa_cons (se_gint Φ.c_MOST) sa_nil))) sk_nil)))) (ss_one (s_raise (clP_NoPlayers Φ) (xt_of (x := xr_NoPlayers) Φ.xf (List.mem_of_getElem? (i := 0) rfl)) rfl hr (by decide) tk (se_var (i := 1)))) ss_nil) (ss_cons (s_if (PW.pt (sw_or (sb_not (sb_val (se_fnG (ok_is_pair_list Φ) hr (by decide) tk (sc_some (sa_cons (se_var (i := 2)) (sa_cons (se_var (i := 1)) sa_nil)) sk_nil)))) (sw_or1 (sb_cmpR (op_neA (un64 hr)) m_neA (se_bin op_mulX m_mul se_int (se_callB call_lenAll m_len rfl Φ.f_len boot_len (sa_cons (se_var (i := 2)) sa_nil))) (se_bin op_mulX m_mul (se_callB call_lenAll m_len rfl Φ.f_len boot_len (sa_cons (se_var (i := 1)) sa_nil)) (se_bin op_sub m_sub (se_callB call_lenAll m_len rfl Φ.f_len boot_len (sa_cons (se_var (i := 1)) sa_nil)) se_int)) (by first | exact nobehind _ (by decide) (by decide) | rfl))))) (ss_one (s_raise (clP_NoVerdicts Φ) (xt_of (x := xr_NoVerdicts) Φ.xf (List.mem_of_getElem? (i := 1) rfl)) rfl hr (by decide) tk (se_var (i := 2)))) ss_nil) (ss_cons (s_fld (Φ.na_Row "own_places" (by decide)) (se_var (i := 0)) (se_dictC (own := [("place", 3), ("player", 4)]) hr (kDFz_ok false) rfl sc.nd (si_enum Φ.f_enumerate (sa_cons (se_var (i := 1)) sa_nil)) (blkOk_by (by kernel_rfl)) (by decide) (fun _ _ _ _ _ => (sg_tup rfl (sgs_cons (i := 3) sc.nd (sgs_cons (i := 4) sc.nd sgs_nil)))) (fun _ _ _ _ _ => sts_nil) (fun _ _ _ _ _ => (se_var (i := 4))) (fun _ _ _ _ _ => (se_var (i := 3))))) (ss_one (s_fld (Φ.na_Row "own_verdicts" (by decide)) (se_var (i := 0)) (se_dictC (own := [("verdict", 5)]) hr (kDFz_ok true) rfl sc.nd (si_any (se_var (i := 2))) (blkOk_by (by kernel_rfl)) (by decide) (fun _ _ _ _ _ => (sg_name (i := 5) sc.nd)) (fun _ _ _ _ _ => sts_nil) (fun _ _ _ _ _ => (se_var (i := 5))) (fun _ _ _ _ _ => se_bl)))))))
theorem okIk_Row_0_verdicts_players {P : Program} {w : World} {K : PySem.W.Frag} {mg : Str → Option Value} {base : Heap} (Φ : Fs K mg) : ClI P w K mg base "Row" 3 f_Row___init__ 0 ["verdicts", "players"] (gPerm [(false, 0), (true, 1), (true, 0)]) := by
  obtain ⟨fd, fD⟩ := Φ.d_Row___init__
  exact ⟨_, _, fd, ["self", "players", "verdicts"], ⟨fn_Row___init__ Φ fD, ar_fnM⟩, Φ.k_Row, Φ.km_Row___init__, BnM.perm fD 1 ["verdicts", "players"] [(false, 0), (true, 1), (true, 0)] fun _ _ _ _ _ _ us ws h1 h2 => match us, ws, h1, h2 with | [_], [_, _], _, _ => rfl⟩
theorem okI_Row {P : Program} {w : World} {K : PySem.W.Frag} {mg : Str → Option Value} {base : Heap} (Φ : Fs K mg) : ClI P w K mg base "Row" 3 f_Row___init__ 2 [] gPos := by
  obtain ⟨fd, fD⟩ := Φ.d_Row___init__
  exact ⟨_, _, fd, ["self", "players", "verdicts"], ⟨fn_Row___init__ Φ fD, ar_fnM⟩, Φ.k_Row, Φ.km_Row___init__, BnM.pos (fD.bindsN fun _ _ _ _ _ _ us hl => match us, hl with | [_, _, _], _ => rfl) 3 rfl⟩
theorem sc_Row_players : FnScope ["self"] ["self"] (defScope st_Row_players) := ⟨rfl, rfl, rfl, by decide +kernel, rfl, by decide +kernel, by decide +kernel⟩
def b_Row_players : MS := (sRet (mCall (dListA kFz) (mCons (mUn (dFld ["Row"] "own_places") (mVar 0)) mNil)))
def f_Row_players : List D → M D := fnM 1 1 b_Row_players
theorem fn_Row_players {P : Program} {w : World} {K : PySem.W.Frag} {mg : Str → Option Value} {base : Heap} (Φ : Fs K mg) {fd : FuncData} (fD : FunD K "players" "Row.players" (defArgs st_Row_players) (defBody st_Row_players) (defScope st_Row_players) [] [] (He.ma K (He.ga K "Row") "players") fd) : FnG P w K mg base (CXn P w) 1 (He.ma K (He.ga K "Row") "players") fd ["self"] (spM K mg 1 f_Row_players) := by
  have sc := sc_Row_players
  refine fn_ok fD sc_Row_players rfl rfl fun cdv A outer s H E hr tk hp => ?_
  exact (ss_one (s_ret (se_callTy (call_listA rfl) (m_listA newK_fz) rfl Φ.f_list boot_list (sa_cons (se_fld (Φ.na_Row "own_places" (by decide)) (se_var (i := 0))) sa_nil))))
theorem okm_Row_players {P : Program} {w : World} {K : PySem.W.Frag} {mg : Str → Option Value} {base : Heap} (Φ : Fs K mg) : ClM P w K mg base "Row" "players" 1 f_Row_players 0 [] gPos := by
  obtain ⟨fd, fD⟩ := Φ.d_Row_players
  exact ⟨_, _, fd, ["self"], ⟨fn_Row_players Φ fD, ar_fnM⟩, Φ.k_Row, Φ.kc_Row, Φ.km_Row_players, BnM.pos (fD.bindsN fun _ _ _ _ _ _ us hl => match us, hl with | [_], _ => rfl) 1 rfl⟩
theorem sc_all_pairs : FnScope ["players", "at", "one", "other"] ["players"] (defScope st_all_pairs) := ⟨rfl, rfl, rfl, by decide +kernel, rfl, by decide +kernel, by decide +kernel⟩
def b_all_pairs : MS := (sRet (mComp2 kFz (iEnumM (mCons (mVar 0) mNil)) (tgTup [1, 2]) bYes (iSeq (mSl kFz (mVar 0) (oSome (mBin (dAddK kFz) (mVar 1) (mC (.int 1)))) oNone)) (tgName 3) bYes (mTup (mCons (mVar 2) (mCons (mVar 3) mNil))) [1, 2, 3] [3]))
def f_all_pairs : List D → M D := fnM 1 4 b_all_pairs
theorem fn_all_pairs {P : Program} {w : World} {K : PySem.W.Frag} {mg : Str → Option Value} {base : Heap} (Φ : Fs K mg) {fd : FuncData} (fD : FunD K "all_pairs" "all_pairs" (defArgs st_all_pairs) (defBody st_all_pairs) (defScope st_all_pairs) [] [] (He.ga K "all_pairs") fd) : FnG P w K mg base (CXn P w) 1 (He.ga K "all_pairs") fd ["players"] (spM K mg 1 f_all_pairs) := by
  have sc := sc_all_pairs
  refine fn_ok fD sc_all_pairs rfl rfl fun cdv A outer s H E hr tk hp => ?_
  exact (ss_one (s_ret (se_comp2 (own := [("at", 1), ("one", 2), ("other", 3)]) (vs1 := [3]) kFz_ok rfl sc.nd (si_enum Φ.f_enumerate (sa_cons (se_var (i := 0)) sa_nil)) (blkOk_by (by kernel_rfl)) (by decide) (by decide) (by decide) (fun _ _ _ _ _ => (sg_tup rfl (sgs_cons (i := 1) sc.nd (sgs_cons (i := 2) sc.nd sgs_nil)))) (fun _ _ _ _ _ => sts_nil) (fun _ _ _ _ _ => (si_seq (se_slice newK_fz (se_var (i := 0)) (so_some (se_bin op_addA (m_add newK_fz) (se_var (i := 1)) se_int)) so_none))) (fun _ _ _ _ _ => (sg_name (i := 3) sc.nd)) (fun _ _ _ _ _ => sts_nil) (fun _ _ _ _ _ => (se_tup (sa_cons (se_var (i := 2)) (sa_cons (se_var (i := 3)) sa_nil)))))))
theorem ok_all_pairs {P : Program} {w : World} {K : PySem.W.Frag} {mg : Str → Option Value} {base : Heap} (Φ : Fs K mg) : ClG P w K mg base "all_pairs" 1 f_all_pairs 1 [] gPos := by
  obtain ⟨fd, fD⟩ := Φ.d_all_pairs
  exact ⟨⟨_, fd, ["players"], ⟨fn_all_pairs Φ fD, ar_fnM⟩, Φ.g_all_pairs, fD.kp, BnM.pos (fD.bindsN fun _ _ _ _ _ _ us hl => match us, hl with | [_], _ => rfl) 1 rfl⟩⟩
theorem sc_Row_verdicts : FnScope ["self", "twos", "two"] ["self"] (defScope st_Row_verdicts) := ⟨rfl, rfl, rfl, by decide +kernel, rfl, by decide +kernel, by decide +kernel⟩
def b_Row_verdicts : MS := (sSeq (sAsg (mCallG 1 0 gPos f_all_pairs (mCons (mMthG "Row" "players" 0 0 gPos f_Row_players (mVar 0) mNil mNil) mNil) mNil) (tgName 1)) (sRet (mComp kFz (iAny (mVar 1)) (tgName 2) bYes (mIf (bVal (mBin (dIn false) (mVar 2) (mUn (dFld ["Row"] "own_verdicts") (mVar 0)))) (mVar 2) (mTup (mCons (mBin dIdx (mVar 2) (mC (.int 1))) (mCons (mBin dIdx (mVar 2) (mC (.int 0))) mNil)))) [2])))
def f_Row_verdicts : List D → M D := fnM 1 3 b_Row_verdicts
theorem fn_Row_verdicts {P : Program} {w : World} {K : PySem.W.Frag} {mg : Str → Option Value} {base : Heap} (Φ : Fs K mg) {fd : FuncData} (fD : FunD K "verdicts" "Row.verdicts" (defArgs st_Row_verdicts) (defBody st_Row_verdicts) (defScope st_Row_verdicts) [] [] (He.ma K (He.ga K "Row") "verdicts") fd) : FnG P w K mg base (CXn P w) 2 (He.ma K (He.ga K "Row") "verdicts") fd ["self"] (spM K mg 1 f_Row_verdicts) := by
  have sc := sc_Row_verdicts
  refine fn_ok fD sc_Row_verdicts rfl rfl fun cdv A outer s H E hr tk hp => ?_
  exact (ss_cons (s_set (i := 1) sc.nd (se_fnG (ok_all_pairs Φ) hr (by decide) tk (sc_some (sa_cons (se_mthG (okm_Row_players Φ) hr (by decide) tk (se_var (i := 0)) (sc_none sk_nil)) sa_nil) sk_nil))) (ss_one (s_ret (se_comp (own := [("two", 2)]) kFz_ok rfl sc.nd (si_any (se_var (i := 1))) (blkOk_by (by kernel_rfl)) (by decide) (fun _ _ _ _ _ => (sg_name (i := 2) sc.nd)) (fun _ _ _ _ _ => sts_nil) (fun _ _ _ _ _ => (se_if (sb_in hr (se_var (i := 2)) (se_fld (Φ.na_Row "own_verdicts" (by decide)) (se_var (i := 0)))) (se_var (i := 2)) (se_tup (sa_cons (se_idx hr (se_var (i := 2)) se_int) (sa_cons (se_idx hr (se_var (i := 2)) se_int) sa_nil)))))))))
theorem okm_Row_verdicts {P : Program} {w : World} {K : PySem.W.Frag} {mg : Str → Option Value} {base : Heap} (Φ : Fs K mg) : ClM P w K mg base "Row" "verdicts" 2 f_Row_verdicts 0 [] gPos := by
  obtain ⟨fd, fD⟩ := Φ.d_Row_verdicts
  exact ⟨_, _, fd, ["self"], ⟨fn_Row_verdicts Φ fD, ar_fnM⟩, Φ.k_Row, Φ.kc_Row, Φ.km_Row_verdicts, BnM.pos (fD.bindsN fun _ _ _ _ _ _ us hl => match us, hl with | [_], _ => rfl) 1 rfl⟩
theorem sc_Row___eq__ : FnScope ["self", "other"] ["self", "other"] (defScope st_Row___eq__) := ⟨rfl, rfl, rfl, by decide +kernel, rfl, by decide +kernel, by decide +kernel⟩
def b_Row___eq__ : MS := (sSeq (sIf (bNot (bVal (mUn (dIsiK krs "Row") (mVar 1)))) (sRet (mC (.bl false))) sNx) (sRet (mAnd (mBin dEqA (mMthG "Row" "players" 0 0 gPos f_Row_players (mVar 0) mNil mNil) (mMthG "Row" "players" 0 0 gPos f_Row_players (mVar 1) mNil mNil)) (mBin dEqA (mMthG "Row" "verdicts" 0 0 gPos f_Row_verdicts (mVar 0) mNil mNil) (mMthG "Row" "verdicts" 0 0 gPos f_Row_verdicts (mVar 1) mNil mNil)))))
def f_Row___eq__ : List D → M D := fnM 2 2 b_Row___eq__
theorem fn_Row___eq__ {P : Program} {w : World} {K : PySem.W.Frag} {mg : Str → Option Value} {base : Heap} (Φ : Fs K mg) {fd : FuncData} (fD : FunD K "__eq__" "Row.__eq__" (defArgs st_Row___eq__) (defBody st_Row___eq__) (defScope st_Row___eq__) [] [] (He.ma K (He.ga K "Row") "__eq__") fd) : FnG P w K mg base (CXn P w) 3 (He.ma K (He.ga K "Row") "__eq__") fd ["self", "other"] (spM K mg 2 f_Row___eq__) := by
  have sc := sc_Row___eq__
  refine fn_ok fD sc_Row___eq__ rfl rfl fun cdv A outer s H E hr tk hp => ?_
  exact (ss_cons (s_if (sb_not (sb_val (se_isiK Φ.kf mem_Row rfl (se_var (i := 1)) Φ.f_isinstance))) (ss_one (s_ret se_bl)) ss_nil) (ss_one (s_ret (se_and (se_cmpR (op_eqA (un64 hr)) m_eqA (se_mthG (okm_Row_players Φ) hr (by decide) tk (se_var (i := 0)) (sc_none sk_nil)) (se_mthG (okm_Row_players Φ) hr (by decide) tk (se_var (i := 1)) (sc_none sk_nil)) (by first | exact nobehind _ (by decide) (by decide) | rfl)) (se_one (se_cmpR (op_eqA (un64 hr)) m_eqA (se_mthG (okm_Row_verdicts Φ) hr (by decide) tk (se_var (i := 0)) (sc_none sk_nil)) (se_mthG (okm_Row_verdicts Φ) hr (by decide) tk (se_var (i := 1)) (sc_none sk_nil)) (by first | exact nobehind _ (by decide) (by decide) | rfl)))))))
theorem okE_Row___eq__ {P : Program} {w : World} {K : PySem.W.Frag} {mg : Str → Option Value} {base : Heap} (Φ : Fs K mg) : ClE P w K mg base "Row" "__eq__" 3 2 f_Row___eq__ := by
  obtain ⟨fd, fD⟩ := Φ.d_Row___eq__
  exact ⟨_, _, fd, ["self", "other"], ⟨fn_Row___eq__ Φ fD, ar_fnM⟩, Φ.k_Row, Φ.km_Row___eq__, ⟨(Φ.kf.k _ mem_Row).2.ne, (Φ.kf.k _ mem_Row).2.ob⟩, BnM.pos (fD.bindsN fun _ _ _ _ _ _ us hl => match us, hl with | [_, _], _ => rfl) 2 rfl⟩
theorem okm_Row___eq__ {P : Program} {w : World} {K : PySem.W.Frag} {mg : Str → Option Value} {base : Heap} (Φ : Fs K mg) : ClM P w K mg base "Row" "__eq__" 3 f_Row___eq__ 1 [] gPos := by
  obtain ⟨fd, fD⟩ := Φ.d_Row___eq__
  exact ⟨_, _, fd, ["self", "other"], ⟨fn_Row___eq__ Φ fD, ar_fnM⟩, Φ.k_Row, Φ.kc_Row, Φ.km_Row___eq__, BnM.pos (fD.bindsN fun _ _ _ _ _ _ us hl => match us, hl with | [_, _], _ => rfl) 2 rfl⟩
theorem sc_Row___len__ : FnScope ["self"] ["self"] (defScope st_Row___len__) := ⟨rfl, rfl, rfl, by decide +kernel, rfl, by decide +kernel, by decide +kernel⟩
def b_Row___len__ : MS := (sRet (mCall dLen (mCons (mUn (dFld ["Row"] "own_places") (mVar 0)) mNil)))
def f_Row___len__ : List D → M D := fnM 1 1 b_Row___len__
theorem fn_Row___len__ {P : Program} {w : World} {K : PySem.W.Frag} {mg : Str → Option Value} {base : Heap} (Φ : Fs K mg) {fd : FuncData} (fD : FunD K "__len__" "Row.__len__" (defArgs st_Row___len__) (defBody st_Row___len__) (defScope st_Row___len__) [] [] (He.ma K (He.ga K "Row") "__len__") fd) : FnG P w K mg base (CXn P w) 1 (He.ma K (He.ga K "Row") "__len__") fd ["self"] (spM K mg 1 f_Row___len__) := by
  have sc := sc_Row___len__
  refine fn_ok fD sc_Row___len__ rfl rfl fun cdv A outer s H E hr tk hp => ?_
  exact (ss_one (s_ret (se_callB call_lenAll m_len rfl Φ.f_len boot_len (sa_cons (se_fld (Φ.na_Row "own_places" (by decide)) (se_var (i := 0))) sa_nil))))
theorem okE_Row___len__ {P : Program} {w : World} {K : PySem.W.Frag} {mg : Str → Option Value} {base : Heap} (Φ : Fs K mg) : ClE P w K mg base "Row" "__len__" 1 1 f_Row___len__ := by
  obtain ⟨fd, fD⟩ := Φ.d_Row___len__
  exact ⟨_, _, fd, ["self"], ⟨fn_Row___len__ Φ fD, ar_fnM⟩, Φ.k_Row, Φ.km_Row___len__, ⟨(Φ.kf.k _ mem_Row).2.ne, (Φ.kf.k _ mem_Row).2.ob⟩, BnM.pos (fD.bindsN fun _ _ _ _ _ _ us hl => match us, hl with | [_], _ => rfl) 1 rfl⟩
theorem okm_Row___len__ {P : Program} {w : World} {K : PySem.W.Frag} {mg : Str → Option Value} {base : Heap} (Φ : Fs K mg) : ClM P w K mg base "Row" "__len__" 1 f_Row___len__ 0 [] gPos := by
  obtain ⟨fd, fD⟩ := Φ.d_Row___len__
  exact ⟨_, _, fd, ["self"], ⟨fn_Row___len__ Φ fD, ar_fnM⟩, Φ.k_Row, Φ.kc_Row, Φ.km_Row___len__, BnM.pos (fD.bindsN fun _ _ _ _ _ _ us hl => match us, hl with | [_], _ => rfl) 1 rfl⟩
theorem sc_Stand_gaps : FnScope ["self", "gone", "gap", "winner", "loser"] ["self"] (defScope st_Stand_gaps) := ⟨rfl, rfl, rfl, by decide +kernel, rfl, by decide +kernel, by decide +kernel⟩
def b_Stand_gaps : MS := (sSeq (sAsg (mComp kFz (iAny (mUn (dFld ["Stand"] "own_plays") (mVar 0))) (tgTup [2, 3, 4]) bYes (mVar 2) [2, 3, 4]) (tgName 1)) (sRet (mComp kFz (CL.iRng1 (mCons (mBin dSub (mLenO "Row" f_Row___len__ (mUn (dFld ["Stand"] "own_row") (mVar 0))) (mC (.int 1))) mNil)) (tgName 2) (bVal (mBin (dIn true) (mVar 2) (mVar 1))) (mVar 2) [2])))
def f_Stand_gaps : List D → M D := fnM 1 5 b_Stand_gaps
theorem fn_Stand_gaps {P : Program} {w : World} {K : PySem.W.Frag} {mg : Str → Option Value} {base : Heap} (Φ : Fs K mg) {fd : FuncData} (fD : FunD K "gaps" "Stand.gaps" (defArgs st_Stand_gaps) (defBody st_Stand_gaps) (defScope st_Stand_gaps) [] [] (He.ma K (He.ga K "Stand") "gaps") fd) : FnG P w K mg base (CXn P w) 3 (He.ma K (He.ga K "Stand") "gaps") fd ["self"] (spM K mg 1 f_Stand_gaps) := by
  have sc := sc_Stand_gaps
  refine fn_ok fD sc_Stand_gaps rfl rfl fun cdv A outer s H E hr tk hp => ?_
  exact (ss_cons (s_set (i := 1) sc.nd (se_comp (own := [("gap", 2), ("winner", 3), ("loser", 4)]) kFz_ok rfl sc.nd (si_any (se_fld (Φ.na_Stand "own_plays" (by decide)) (se_var (i := 0)))) (blkOk_by (by kernel_rfl)) (by decide) (fun _ _ _ _ _ => (sg_tup rfl (sgs_cons (i := 2) sc.nd (sgs_cons (i := 3) sc.nd (sgs_cons (i := 4) sc.nd sgs_nil))))) (fun _ _ _ _ _ => sts_nil) (fun _ _ _ _ _ => (se_var (i := 2))))) (ss_one (s_ret (se_comp (own := [("gap", 2)]) kFz_ok rfl sc.nd (si_range1 Φ.f_range (sa_cons (se_bin op_sub m_sub (se_lenO (okE_Row___len__ Φ) hr (by decide) tk (se_fld (Φ.na_Stand "own_row" (by decide)) (se_var (i := 0))) Φ.f_len) se_int) sa_nil)) (blkOk_by (by kernel_rfl)) (by decide) (fun _ _ _ _ _ => (sg_name (i := 2) sc.nd)) (fun _ _ _ _ _ => (sts_one (sb_notin hr (se_var (i := 2)) (se_var (i := 1))))) (fun _ _ _ _ _ => (se_var (i := 2)))))))
theorem okm_Stand_gaps {P : Program} {w : World} {K : PySem.W.Frag} {mg : Str → Option Value} {base : Heap} (Φ : Fs K mg) : ClM P w K mg base "Stand" "gaps" 3 f_Stand_gaps 0 [] gPos := by
  obtain ⟨fd, fD⟩ := Φ.d_Stand_gaps
  exact ⟨_, _, fd, ["self"], ⟨fn_Stand_gaps Φ fD, ar_fnM⟩, Φ.k_Stand, Φ.kc_Stand, Φ.km_Stand_gaps, BnM.pos (fD.bindsN fun _ _ _ _ _ _ us hl => match us, hl with | [_], _ => rfl) 1 rfl⟩
theorem sc_Stand___eq__ : FnScope ["self", "other"] ["self", "other"] (defScope st_Stand___eq__) := ⟨rfl, rfl, rfl, by decide +kernel, rfl, by decide +kernel, by decide +kernel⟩
def b_Stand___eq__ : MS := (sSeq (sIf (bOr (bNot (bVal (mUn (dIsiK krs "Stand") (mVar 1)))) (bVal (mBin (dOwn true "Row" f_Row___eq__) (mUn (dFld ["Stand"] "own_row") (mVar 0)) (mUn (dFld ["Stand"] "own_row") (mVar 1))))) (sRet (mC (.bl false))) sNx) (sRet (mAnd (mBin dEqA (mUn (dFld ["Stand"] "own_standing") (mVar 0)) (mUn (dFld ["Stand"] "own_standing") (mVar 1))) (mBin dEqA (mMthG "Stand" "gaps" 0 0 gPos f_Stand_gaps (mVar 0) mNil mNil) (mMthG "Stand" "gaps" 0 0 gPos f_Stand_gaps (mVar 1) mNil mNil)))))
def f_Stand___eq__ : List D → M D := fnM 2 2 b_Stand___eq__
theorem fn_Stand___eq__ {P : Program} {w : World} {K : PySem.W.Frag} {mg : Str → Option Value} {base : Heap} (Φ : Fs K mg) {fd : FuncData} (fD : FunD K "__eq__" "Stand.__eq__" (defArgs st_Stand___eq__) (defBody st_Stand___eq__) (defScope st_Stand___eq__) [] [] (He.ma K (He.ga K "Stand") "__eq__") fd) : FnG P w K mg base (CXn P w) 5 (He.ma K (He.ga K "Stand") "__eq__") fd ["self", "other"] (spM K mg 2 f_Stand___eq__) := by
  have sc := sc_Stand___eq__
  refine fn_ok fD sc_Stand___eq__ rfl rfl fun cdv A outer s H E hr tk hp => ?_
  exact (ss_cons (s_if (PW.pt (sw_or (sb_not (sb_val (se_isiK Φ.kf mem_Stand rfl (se_var (i := 1)) Φ.f_isinstance))) (sw_or1 (sb_own (neg := true) rfl (okE_Row___eq__ Φ) hr (by decide) tk (se_fld (Φ.na_Stand "own_row" (by decide)) (se_var (i := 0))) (se_fld (Φ.na_Stand "own_row" (by decide)) (se_var (i := 1))) (by first | exact nobehind _ (by decide) (by decide) | rfl))))) (ss_one (s_ret se_bl)) ss_nil) (ss_one (s_ret (se_and (se_cmpR (op_eqA (un64 hr)) m_eqA (se_fld (Φ.na_Stand "own_standing" (by decide)) (se_var (i := 0))) (se_fld (Φ.na_Stand "own_standing" (by decide)) (se_var (i := 1))) (by first | exact nobehind _ (by decide) (by decide) | rfl)) (se_one (se_cmpR (op_eqA (un64 hr)) m_eqA (se_mthG (okm_Stand_gaps Φ) hr (by decide) tk (se_var (i := 0)) (sc_none sk_nil)) (se_mthG (okm_Stand_gaps Φ) hr (by decide) tk (se_var (i := 1)) (sc_none sk_nil)) (by first | exact nobehind _ (by decide) (by decide) | rfl)))))))
theorem okE_Stand___eq__ {P : Program} {w : World} {K : PySem.W.Frag} {mg : Str → Option Value} {base : Heap} (Φ : Fs K mg) : ClE P w K mg base "Stand" "__eq__" 5 2 f_Stand___eq__ := by
  obtain ⟨fd, fD⟩ := Φ.d_Stand___eq__
  exact ⟨_, _, fd, ["self", "other"], ⟨fn_Stand___eq__ Φ fD, ar_fnM⟩, Φ.k_Stand, Φ.km_Stand___eq__, ⟨(Φ.kf.k _ mem_Stand).2.ne, (Φ.kf.k _ mem_Stand).2.ob⟩, BnM.pos (fD.bindsN fun _ _ _ _ _ _ us hl => match us, hl with | [_, _], _ => rfl) 2 rfl⟩
theorem okm_Stand___eq__ {P : Program} {w : World} {K : PySem.W.Frag} {mg : Str → Option Value} {base : Heap} (Φ : Fs K mg) : ClM P w K mg base "Stand" "__eq__" 5 f_Stand___eq__ 1 [] gPos := by
  obtain ⟨fd, fD⟩ := Φ.d_Stand___eq__
  exact ⟨_, _, fd, ["self", "other"], ⟨fn_Stand___eq__ Φ fD, ar_fnM⟩, Φ.k_Stand, Φ.kc_Stand, Φ.km_Stand___eq__, BnM.pos (fD.bindsN fun _ _ _ _ _ _ us hl => match us, hl with | [_, _], _ => rfl) 2 rfl⟩
theorem sc_Row_has : FnScope ["self", "thing"] ["self", "thing"] (defScope st_Row_has) := ⟨rfl, rfl, rfl, by decide +kernel, rfl, by decide +kernel, by decide +kernel⟩
def b_Row_has : MS := (sRet (mAnd (mUn (dIsi "str") (mVar 1)) (mBin (dIn false) (mVar 1) (mUn (dFld ["Row"] "own_places") (mVar 0)))))
def f_Row_has : List D → M D := fnM 2 2 b_Row_has
theorem fn_Row_has {P : Program} {w : World} {K : PySem.W.Frag} {mg : Str → Option Value} {base : Heap} (Φ : Fs K mg) {fd : FuncData} (fD : FunD K "has" "Row.has" (defArgs st_Row_has) (defBody st_Row_has) (defScope st_Row_has) [] [] (He.ma K (He.ga K "Row") "has") fd) : FnG P w K mg base (CXn P w) 1 (He.ma K (He.ga K "Row") "has") fd ["self", "thing"] (spM K mg 2 f_Row_has) := by
  have sc := sc_Row_has
  refine fn_ok fD sc_Row_has rfl rfl fun cdv A outer s H E hr tk hp => ?_
  exact (ss_one (s_ret (se_and (se_isi (by decide) (se_var (i := 1)) Φ.f_isinstance Φ.f_str boot_str) (se_one (se_in hr (se_var (i := 1)) (se_fld (Φ.na_Row "own_places" (by decide)) (se_var (i := 0))))))))
theorem okmk_Row_has_0_thing {P : Program} {w : World} {K : PySem.W.Frag} {mg : Str → Option Value} {base : Heap} (Φ : Fs K mg) : ClM P w K mg base "Row" "has" 1 f_Row_has 0 ["thing"] (gPerm [(false, 0), (true, 0)]) := by
  obtain ⟨fd, fD⟩ := Φ.d_Row_has
  exact ⟨_, _, fd, ["self", "thing"], ⟨fn_Row_has Φ fD, ar_fnM⟩, Φ.k_Row, Φ.kc_Row, Φ.km_Row_has, BnM.perm fD 1 ["thing"] [(false, 0), (true, 0)] fun _ _ _ _ _ _ us ws h1 h2 => match us, ws, h1, h2 with | [_], [_], _, _ => rfl⟩
theorem okm_Row_has {P : Program} {w : World} {K : PySem.W.Frag} {mg : Str → Option Value} {base : Heap} (Φ : Fs K mg) : ClM P w K mg base "Row" "has" 1 f_Row_has 1 [] gPos := by
  obtain ⟨fd, fD⟩ := Φ.d_Row_has
  exact ⟨_, _, fd, ["self", "thing"], ⟨fn_Row_has Φ fD, ar_fnM⟩, Φ.k_Row, Φ.kc_Row, Φ.km_Row_has, BnM.pos (fD.bindsN fun _ _ _ _ _ _ us hl => match us, hl with | [_, _], _ => rfl) 2 rfl⟩
theorem sc_Row_place : FnScope ["self", "player"] ["self", "player"] (defScope st_Row_place) := ⟨rfl, rfl, rfl, by decide +kernel, rfl, by decide +kernel, by decide +kernel⟩
def b_Row_place : MS := (sSeq (sIf (bNot (bVal (mMthG "Row" "has" 1 0 gPos f_Row_has (mVar 0) (mCons (mVar 1) mNil) mNil))) (sRaise "NoPlayer" (mVar 1)) sNx) (sRet (mBin dIdx (mUn (dFld ["Row"] "own_places") (mVar 0)) (mVar 1))))
def f_Row_place : List D → M D := fnM 2 2 b_Row_place
theorem fn_Row_place {P : Program} {w : World} {K : PySem.W.Frag} {mg : Str → Option Value} {base : Heap} (Φ : Fs K mg) {fd : FuncData} (fD : FunD K "place" "Row.place" (defArgs st_Row_place) (defBody st_Row_place) (defScope st_Row_place) [] [] (He.ma K (He.ga K "Row") "place") fd) : FnG P w K mg base (CXn P w) 3 (He.ma K (He.ga K "Row") "place") fd ["self", "player"] (spM K mg 2 f_Row_place) := by
  have sc := sc_Row_place
  refine fn_ok fD sc_Row_place rfl rfl fun cdv A outer s H E hr tk hp => ?_
  exact (ss_cons (s_if (sb_not (sb_val (se_mthG (okm_Row_has Φ) hr (by decide) tk (se_var (i := 0)) (sc_some (sa_cons (se_var (i := 1)) sa_nil) sk_nil)))) (ss_one (s_raise (clP_NoPlayer Φ) (xt_of (x := xr_NoPlayer) Φ.xf (List.mem_of_getElem? (i := 4) rfl)) rfl hr (by decide) tk (se_var (i := 1)))) ss_nil) (ss_one (s_ret (se_idx hr (se_fld (Φ.na_Row "own_places" (by decide)) (se_var (i := 0))) (se_var (i := 1))))))
theorem okmk_Row_place_0_player {P : Program} {w : World} {K : PySem.W.Frag} {mg : Str → Option Value} {base : Heap} (Φ : Fs K mg) : ClM P w K mg base "Row" "place" 3 f_Row_place 0 ["player"] (gPerm [(false, 0), (true, 0)]) := by
  obtain ⟨fd, fD⟩ := Φ.d_Row_place
  exact ⟨_, _, fd, ["self", "player"], ⟨fn_Row_place Φ fD, ar_fnM⟩, Φ.k_Row, Φ.kc_Row, Φ.km_Row_place, BnM.perm fD 1 ["player"] [(false, 0), (true, 0)] fun _ _ _ _ _ _ us ws h1 h2 => match us, ws, h1, h2 with | [_], [_], _, _ => rfl⟩
theorem okm_Row_place {P : Program} {w : World} {K : PySem.W.Frag} {mg : Str → Option Value} {base : Heap} (Φ : Fs K mg) : ClM P w K mg base "Row" "place" 3 f_Row_place 1 [] gPos := by
  obtain ⟨fd, fD⟩ := Φ.d_Row_place
  exact ⟨_, _, fd, ["self", "player"], ⟨fn_Row_place Φ fD, ar_fnM⟩, Φ.k_Row, Φ.kc_Row, Φ.km_Row_place, BnM.pos (fD.bindsN fun _ _ _ _ _ _ us hl => match us, hl with | [_, _], _ => rfl) 2 rfl⟩
theorem sc_Row_beats : FnScope ["self", "one", "other"] ["self", "one", "other"] (defScope st_Row_beats) := ⟨rfl, rfl, rfl, by decide +kernel, rfl, by decide +kernel, by decide +kernel⟩
def b_Row_beats : MS := (sSeq (sExpr (mMthG "Row" "place" 1 0 gPos f_Row_place (mVar 0) (mCons (mVar 1) mNil) mNil)) (sSeq (sExpr (mMthG "Row" "place" 1 0 gPos f_Row_place (mVar 0) (mCons (mVar 2) mNil) mNil)) (sRet (mBin (dIn false) (mTup (mCons (mVar 1) (mCons (mVar 2) mNil))) (mUn (dFld ["Row"] "own_verdicts") (mVar 0))))))
def f_Row_beats : List D → M D := fnM 3 3 b_Row_beats
theorem fn_Row_beats {P : Program} {w : World} {K : PySem.W.Frag} {mg : Str → Option Value} {base : Heap} (Φ : Fs K mg) {fd : FuncData} (fD : FunD K "beats" "Row.beats" (defArgs st_Row_beats) (defBody st_Row_beats) (defScope st_Row_beats) [] [] (He.ma K (He.ga K "Row") "beats") fd) : FnG P w K mg base (CXn P w) 4 (He.ma K (He.ga K "Row") "beats") fd ["self", "one", "other"] (spM K mg 3 f_Row_beats) := by
  have sc := sc_Row_beats
  refine fn_ok fD sc_Row_beats rfl rfl fun cdv A outer s H E hr tk hp => ?_
  exact (ss_cons (s_expr (se_mthG (okm_Row_place Φ) hr (by decide) tk (se_var (i := 0)) (sc_some (sa_cons (se_var (i := 1)) sa_nil) sk_nil))) (ss_cons (s_expr (se_mthG (okm_Row_place Φ) hr (by decide) tk (se_var (i := 0)) (sc_some (sa_cons (se_var (i := 2)) sa_nil) sk_nil))) (ss_one (s_ret (se_in hr (se_tup (sa_cons (se_var (i := 1)) (sa_cons (se_var (i := 2)) sa_nil))) (se_fld (Φ.na_Row "own_verdicts" (by decide)) (se_var (i := 0))))))))
theorem okmk_Row_beats_0_other_one {P : Program} {w : World} {K : PySem.W.Frag} {mg : Str → Option Value} {base : Heap} (Φ : Fs K mg) : ClM P w K mg base "Row" "beats" 4 f_Row_beats 0 ["other", "one"] (gPerm [(false, 0), (true, 1), (true, 0)]) := by
  obtain ⟨fd, fD⟩ := Φ.d_Row_beats
  exact ⟨_, _, fd, ["self", "one", "other"], ⟨fn_Row_beats Φ fD, ar_fnM⟩, Φ.k_Row, Φ.kc_Row, Φ.km_Row_beats, BnM.perm fD 1 ["other", "one"] [(false, 0), (true, 1), (true, 0)] fun _ _ _ _ _ _ us ws h1 h2 => match us, ws, h1, h2 with | [_], [_, _], _, _ => rfl⟩
theorem okm_Row_beats {P : Program} {w : World} {K : PySem.W.Frag} {mg : Str → Option Value} {base : Heap} (Φ : Fs K mg) : ClM P w K mg base "Row" "beats" 4 f_Row_beats 2 [] gPos := by
  obtain ⟨fd, fD⟩ := Φ.d_Row_beats
  exact ⟨_, _, fd, ["self", "one", "other"], ⟨fn_Row_beats Φ fD, ar_fnM⟩, Φ.k_Row, Φ.kc_Row, Φ.km_Row_beats, BnM.pos (fD.bindsN fun _ _ _ _ _ _ us hl => match us, hl with | [_, _, _], _ => rfl) 3 rfl⟩
theorem sc_is_whole : FnScope ["thing"] ["thing"] (defScope st_is_whole) := ⟨rfl, rfl, rfl, by decide +kernel, rfl, by decide +kernel, by decide +kernel⟩
def b_is_whole : MS := (sRet (mAnd (mUn (dIsi "int") (mVar 0)) (mNot (mUn (dIsi "bool") (mVar 0)))))
def f_is_whole : List D → M D := fnM 1 1 b_is_whole
theorem fn_is_whole {P : Program} {w : World} {K : PySem.W.Frag} {mg : Str → Option Value} {base : Heap} (Φ : Fs K mg) {fd : FuncData} (fD : FunD K "is_whole" "is_whole" (defArgs st_is_whole) (defBody st_is_whole) (defScope st_is_whole) [] [] (He.ga K "is_whole") fd) : FnG P w K mg base (CXn P w) 1 (He.ga K "is_whole") fd ["thing"] (spM K mg 1 f_is_whole) := by
  have sc := sc_is_whole
  refine fn_ok fD sc_is_whole rfl rfl fun cdv A outer s H E hr tk hp => ?_
  exact (ss_one (s_ret (se_and (se_isi (by decide) (se_var (i := 0)) Φ.f_isinstance Φ.f_int boot_int) (se_one (se_not (se_isi (by decide) (se_var (i := 0)) Φ.f_isinstance Φ.f_bool boot_bool))))))
theorem ok_is_whole {P : Program} {w : World} {K : PySem.W.Frag} {mg : Str → Option Value} {base : Heap} (Φ : Fs K mg) : ClG P w K mg base "is_whole" 1 f_is_whole 1 [] gPos := by
  obtain ⟨fd, fD⟩ := Φ.d_is_whole
  exact ⟨⟨_, fd, ["thing"], ⟨fn_is_whole Φ fD, ar_fnM⟩, Φ.g_is_whole, fD.kp, BnM.pos (fD.bindsN fun _ _ _ _ _ _ us hl => match us, hl with | [_], _ => rfl) 1 rfl⟩⟩
theorem sc_sides : FnScope ["standing", "gap", "place"] ["standing", "gap"] (defScope st_sides) := ⟨rfl, rfl, rfl, by decide +kernel, rfl, by decide +kernel, by decide +kernel⟩
def b_sides : MS := (sRet (mTup (mCons (mBin dIdx (mComp kFz (iAny (mVar 0)) (tgName 2) (bVal (mBin dLe (mVar 2) (mVar 1))) (mVar 2) [2]) (mUn dNeg (mC (.int 1)))) (mCons (mBin dIdx (mComp kFz (iAny (mVar 0)) (tgName 2) (bVal (mBin dGt (mVar 2) (mVar 1))) (mVar 2) [2]) (mC (.int 0))) mNil))))
def f_sides : List D → M D := fnM 2 3 b_sides
theorem fn_sides {P : Program} {w : World} {K : PySem.W.Frag} {mg : Str → Option Value} {base : Heap} (Φ : Fs K mg) {fd : FuncData} (fD : FunD K "sides" "sides" (defArgs st_sides) (defBody st_sides) (defScope st_sides) [] [] (He.ga K "sides") fd) : FnG P w K mg base (CXn P w) 1 (He.ga K "sides") fd ["standing", "gap"] (spM K mg 2 f_sides) := by
  have sc := sc_sides
  refine fn_ok fD sc_sides rfl rfl fun cdv A outer s H E hr tk hp => ?_
  exact (ss_one (s_ret (se_tup (sa_cons (se_idx hr (se_comp (own := [("place", 2)]) kFz_ok rfl sc.nd (si_any (se_var (i := 0))) (blkOk_by (by kernel_rfl)) (by decide) (fun _ _ _ _ _ => (sg_name (i := 2) sc.nd)) (fun _ _ _ _ _ => (sts_one (sb_cmpR op_le m_le (se_var (i := 2)) (se_var (i := 1)) (by first | exact nobehind _ (by decide) (by decide) | rfl)))) (fun _ _ _ _ _ => (se_var (i := 2)))) (se_neg se_int)) (sa_cons (se_idx hr (se_comp (own := [("place", 2)]) kFz_ok rfl sc.nd (si_any (se_var (i := 0))) (blkOk_by (by kernel_rfl)) (by decide) (fun _ _ _ _ _ => (sg_name (i := 2) sc.nd)) (fun _ _ _ _ _ => (sts_one (sb_cmpR op_gt m_gt (se_var (i := 2)) (se_var (i := 1)) (by first | exact nobehind _ (by decide) (by decide) | rfl)))) (fun _ _ _ _ _ => (se_var (i := 2)))) se_int) sa_nil)))))
theorem ok_sides {P : Program} {w : World} {K : PySem.W.Frag} {mg : Str → Option Value} {base : Heap} (Φ : Fs K mg) : ClG P w K mg base "sides" 1 f_sides 2 [] gPos := by
  obtain ⟨fd, fD⟩ := Φ.d_sides
  exact ⟨⟨_, fd, ["standing", "gap"], ⟨fn_sides Φ fD, ar_fnM⟩, Φ.g_sides, fD.kp, BnM.pos (fD.bindsN fun _ _ _ _ _ _ us hl => match us, hl with | [_, _], _ => rfl) 2 rfl⟩⟩
theorem sc_Stand_between : FnScope ["self", "gap", "left", "right", "players"] ["self", "gap"] (defScope st_Stand_between) := ⟨rfl, rfl, rfl, by decide +kernel, rfl, by decide +kernel, by decide +kernel⟩
def b_Stand_between : MS := (sSeq (sIf (bOr (bNot (bVal (mCallG 1 0 gPos f_is_whole (mCons (mVar 1) mNil) mNil))) (bVal (mBin (dIn true) (mVar 1) (mMthG "Stand" "gaps" 0 0 gPos f_Stand_gaps (mVar 0) mNil mNil)))) (sRaise "NoGap" (mVar 1)) sNx) (sSeq (sAsg (mCallG 2 0 gPos f_sides (mCons (mUn (dFld ["Stand"] "own_standing") (mVar 0)) (mCons (mVar 1) mNil)) mNil) (tgTup [2, 3])) (sSeq (sAsg (mMthG "Row" "players" 0 0 gPos f_Row_players (mUn (dFld ["Stand"] "own_row") (mVar 0)) mNil mNil) (tgName 4)) (sRet (mTup (mCons (mBin dIdx (mVar 4) (mVar 2)) (mCons (mBin dIdx (mVar 4) (mVar 3)) mNil)))))))
def f_Stand_between : List D → M D := fnM 2 5 b_Stand_between
theorem fn_Stand_between {P : Program} {w : World} {K : PySem.W.Frag} {mg : Str → Option Value} {base : Heap} (Φ : Fs K mg) {fd : FuncData} (fD : FunD K "between" "Stand.between" (defArgs st_Stand_between) (defBody st_Stand_between) (defScope st_Stand_between) [] [] (He.ma K (He.ga K "Stand") "between") fd) : FnG P w K mg base (CXn P w) 4 (He.ma K (He.ga K "Stand") "between") fd ["self", "gap"] (spM K mg 2 f_Stand_between) := by
  have sc := sc_Stand_between
  refine fn_ok fD sc_Stand_between rfl rfl fun cdv A outer s H E hr tk hp => ?_
  exact (ss_cons (s_if (PW.pt (sw_or (sb_not (sb_val (se_fnG (ok_is_whole Φ) hr (by decide) tk (sc_some (sa_cons (se_var (i := 1)) sa_nil) sk_nil)))) (sw_or1 (sb_notin hr (se_var (i := 1)) (se_mthG (okm_Stand_gaps Φ) hr (by decide) tk (se_var (i := 0)) (sc_none sk_nil)))))) (ss_one (s_raise (clP_NoGap Φ) (xt_of (x := xr_NoGap) Φ.xf (List.mem_of_getElem? (i := 5) rfl)) rfl hr (by decide) tk (se_var (i := 1)))) ss_nil) (ss_cons (s_asg (se_fnG (ok_sides Φ) hr (by decide) tk (sc_some (sa_cons (se_fld (Φ.na_Stand "own_standing" (by decide)) (se_var (i := 0))) (sa_cons (se_var (i := 1)) sa_nil)) sk_nil)) (sg_tup rfl (sgs_cons (i := 2) sc.nd (sgs_cons (i := 3) sc.nd sgs_nil)))) (ss_cons (s_set (i := 4) sc.nd (se_mthG (okm_Row_players Φ) hr (by decide) tk (se_fld (Φ.na_Stand "own_row" (by decide)) (se_var (i := 0))) (sc_none sk_nil))) (ss_one (s_ret (se_tup (sa_cons (se_idx hr (se_var (i := 4)) (se_var (i := 2))) (sa_cons (se_idx hr (se_var (i := 4)) (se_var (i := 3))) sa_nil))))))))
theorem okmk_Stand_between_0_gap {P : Program} {w : World} {K : PySem.W.Frag} {mg : Str → Option Value} {base : Heap} (Φ : Fs K mg) : ClM P w K mg base "Stand" "between" 4 f_Stand_between 0 ["gap"] (gPerm [(false, 0), (true, 0)]) := by
  obtain ⟨fd, fD⟩ := Φ.d_Stand_between
  exact ⟨_, _, fd, ["self", "gap"], ⟨fn_Stand_between Φ fD, ar_fnM⟩, Φ.k_Stand, Φ.kc_Stand, Φ.km_Stand_between, BnM.perm fD 1 ["gap"] [(false, 0), (true, 0)] fun _ _ _ _ _ _ us ws h1 h2 => match us, ws, h1, h2 with | [_], [_], _, _ => rfl⟩
theorem okm_Stand_between {P : Program} {w : World} {K : PySem.W.Frag} {mg : Str → Option Value} {base : Heap} (Φ : Fs K mg) : ClM P w K mg base "Stand" "between" 4 f_Stand_between 1 [] gPos := by
  obtain ⟨fd, fD⟩ := Φ.d_Stand_between
  exact ⟨_, _, fd, ["self", "gap"], ⟨fn_Stand_between Φ fD, ar_fnM⟩, Φ.k_Stand, Φ.kc_Stand, Φ.km_Stand_between, BnM.pos (fD.bindsN fun _ _ _ _ _ _ us hl => match us, hl with | [_, _], _ => rfl) 2 rfl⟩
theorem sc_Stand_play : FnScope ["self", "gap", "one", "other", "winner", "loser"] ["self", "gap"] (defScope st_Stand_play) := ⟨rfl, rfl, rfl, by decide +kernel, rfl, by decide +kernel, by decide +kernel⟩
def b_Stand_play : MS := (sSeq (sAsg (mMthG "Stand" "between" 1 0 gPos f_Stand_between (mVar 0) (mCons (mVar 1) mNil) mNil) (tgTup [2, 3])) (sSeq (sAsg (mIf (bVal (mMthG "Row" "beats" 2 0 gPos f_Row_beats (mUn (dFld ["Stand"] "own_row") (mVar 0)) (mCons (mVar 2) (mCons (mVar 3) mNil)) mNil)) (mTup (mCons (mVar 2) (mCons (mVar 3) mNil))) (mTup (mCons (mVar 3) (mCons (mVar 2) mNil)))) (tgTup [4, 5])) (sSeq (sExpr (mMeth "list" gAppend (mUn (dFld ["Stand"] "own_plays") (mVar 0)) (mCons (mTup (mCons (mVar 1) (mCons (mVar 4) (mCons (mVar 5) mNil)))) mNil))) (sSeq (sExpr (mMeth "list" gRemove (mUn (dFld ["Stand"] "own_standing") (mVar 0)) (mCons (mMthG "Row" "place" 1 0 gPos f_Row_place (mUn (dFld ["Stand"] "own_row") (mVar 0)) (mCons (mVar 5) mNil) mNil) mNil))) (sRet (mVar 5))))))
def f_Stand_play : List D → M D := fnM 2 6 b_Stand_play
theorem fn_Stand_play {P : Program} {w : World} {K : PySem.W.Frag} {mg : Str → Option Value} {base : Heap} (Φ : Fs K mg) {fd : FuncData} (fD : FunD K "play" "Stand.play" (defArgs st_Stand_play) (defBody st_Stand_play) (defScope st_Stand_play) [] [] (He.ma K (He.ga K "Stand") "play") fd) : FnG P w K mg base (CXn P w) 5 (He.ma K (He.ga K "Stand") "play") fd ["self", "gap"] (spM K mg 2 f_Stand_play) := by
  have sc := sc_Stand_play
  refine fn_ok fD sc_Stand_play rfl rfl fun cdv A outer s H E hr tk hp => ?_
  exact (ss_cons (s_asg (se_mthG (okm_Stand_between Φ) hr (by decide) tk (se_var (i := 0)) (sc_some (sa_cons (se_var (i := 1)) sa_nil) sk_nil)) (sg_tup rfl (sgs_cons (i := 2) sc.nd (sgs_cons (i := 3) sc.nd sgs_nil)))) (ss_cons (s_asg (se_if (sb_val (se_mthG (okm_Row_beats Φ) hr (by decide) tk (se_fld (Φ.na_Stand "own_row" (by decide)) (se_var (i := 0))) (sc_some (sa_cons (se_var (i := 2)) (sa_cons (se_var (i := 3)) sa_nil)) sk_nil))) (se_tup (sa_cons (se_var (i := 2)) (sa_cons (se_var (i := 3)) sa_nil))) (se_tup (sa_cons (se_var (i := 3)) (sa_cons (se_var (i := 2)) sa_nil)))) (sg_tup rfl (sgs_cons (i := 4) sc.nd (sgs_cons (i := 5) sc.nd sgs_nil)))) (ss_cons (s_expr (se_meth F.plainAttrs_list F.slot_list_append F.type_list_append mt_append m_append (se_fld (Φ.na_Stand "own_plays" (by decide)) (se_var (i := 0))) (sa_cons (se_tup (sa_cons (se_var (i := 1)) (sa_cons (se_var (i := 4)) (sa_cons (se_var (i := 5)) sa_nil)))) sa_nil))) (ss_cons (s_expr (se_meth F.plainAttrs_list F.slot_list_remove F.type_list_remove mt_remove m_remove (se_fld (Φ.na_Stand "own_standing" (by decide)) (se_var (i := 0))) (sa_cons (se_mthG (okm_Row_place Φ) hr (by decide) tk (se_fld (Φ.na_Stand "own_row" (by decide)) (se_var (i := 0))) (sc_some (sa_cons (se_var (i := 5)) sa_nil) sk_nil)) sa_nil))) (ss_one (s_ret (se_var (i := 5))))))))
theorem okmk_Stand_play_0_gap {P : Program} {w : World} {K : PySem.W.Frag} {mg : Str → Option Value} {base : Heap} (Φ : Fs K mg) : ClM P w K mg base "Stand" "play" 5 f_Stand_play 0 ["gap"] (gPerm [(false, 0), (true, 0)]) := by
  obtain ⟨fd, fD⟩ := Φ.d_Stand_play
  exact ⟨_, _, fd, ["self", "gap"], ⟨fn_Stand_play Φ fD, ar_fnM⟩, Φ.k_Stand, Φ.kc_Stand, Φ.km_Stand_play, BnM.perm fD 1 ["gap"] [(false, 0), (true, 0)] fun _ _ _ _ _ _ us ws h1 h2 => match us, ws, h1, h2 with | [_], [_], _, _ => rfl⟩
theorem okm_Stand_play {P : Program} {w : World} {K : PySem.W.Frag} {mg : Str → Option Value} {base : Heap} (Φ : Fs K mg) : ClM P w K mg base "Stand" "play" 5 f_Stand_play 1 [] gPos := by
  obtain ⟨fd, fD⟩ := Φ.d_Stand_play
  exact ⟨_, _, fd, ["self", "gap"], ⟨fn_Stand_play Φ fD, ar_fnM⟩, Φ.k_Stand, Φ.kc_Stand, Φ.km_Stand_play, BnM.pos (fD.bindsN fun _ _ _ _ _ _ us hl => match us, hl with | [_, _], _ => rfl) 2 rfl⟩
theorem sc_Stand___init__ : FnScope ["self", "row", "played", "gap"] ["self", "row", "played"] (defScope st_Stand___init__) := ⟨rfl, rfl, rfl, by decide +kernel, rfl, by decide +kernel, by decide +kernel⟩
def b_Stand___init__ : MS := (sSeq (CL.sFld ["Stand"] "own_row" (mVar 0) (mVar 1)) (sSeq (CL.sFld ["Stand"] "own_standing" (mVar 0) (mCall (dLrg kCe) (mCons (mLenO "Row" f_Row___len__ (mVar 1)) mNil))) (sSeq (CL.sFld ["Stand"] "own_plays" (mVar 0) (mCel mNil)) (sFor (iAny (mVar 2)) (tgName 3) (sExpr (mMthG "Stand" "play" 1 0 gPos f_Stand_play (mVar 0) (mCons (mVar 3) mNil) mNil))))))
def f_Stand___init__ : List D → M D := fnM 3 4 b_Stand___init__
theorem fn_Stand___init__ {P : Program} {w : World} {K : PySem.W.Frag} {mg : Str → Option Value} {base : Heap} (Φ : Fs K mg) {fd : FuncData} (fD : FunD K "__init__" "Stand.__init__" (defArgs st_Stand___init__) (defBody st_Stand___init__) (defScope st_Stand___init__) [] [("played", V.ref (kwdAt ("Stand", some "__init__") "played" K))] (He.ma K (He.ga K "Stand") "__init__") fd) : FnG P w K mg base (CXn P w) 6 (He.ma K (He.ga K "Stand") "__init__") fd ["self", "row", "played"] (spM K mg 3 f_Stand___init__) := by
  have sc := sc_Stand___init__
  refine fn_ok fD sc_Stand___init__ rfl rfl fun cdv A outer s H E hr tk hp => ?_
  exact (ss_cons (s_fld (Φ.na_Stand "own_row" (by decide)) (se_var (i := 0)) (se_var (i := 1))) (ss_cons (s_fld (Φ.na_Stand "own_standing" (by decide)) (se_var (i := 0)) (se_lrg1 newK_ce rfl Φ.f_list Φ.f_range (se_lenO (okE_Row___len__ Φ) hr (by decide) tk (se_var (i := 1)) Φ.f_len))) (ss_cons (s_fld (Φ.na_Stand "own_plays" (by decide)) (se_var (i := 0)) (se_cel sa_nil)) (ss_one (s_for hp rfl (si_any (se_var (i := 2))) (sg_name (i := 3) sc.nd) (ss_one (s_expr (se_mthG (okm_Stand_play Φ) hr (by decide) tk (se_var (i := 0)) (sc_some (sa_cons (se_var (i := 3)) sa_nil) sk_nil)))))))))
theorem okIk_Stand_0_played_row {P : Program} {w : World} {K : PySem.W.Frag} {mg : Str → Option Value} {base : Heap} (Φ : Fs K mg) : ClI P w K mg base "Stand" 6 f_Stand___init__ 0 ["played", "row"] (gPerm [(false, 0), (true, 1), (true, 0)]) := by
  obtain ⟨fd, fD⟩ := Φ.d_Stand___init__
  exact ⟨_, _, fd, ["self", "row", "played"], ⟨fn_Stand___init__ Φ fD, ar_fnM⟩, Φ.k_Stand, Φ.km_Stand___init__, BnM.perm fD 1 ["played", "row"] [(false, 0), (true, 1), (true, 0)] fun _ _ _ _ _ _ us ws h1 h2 => match us, ws, h1, h2 with | [_], [_, _], _, _ => rfl⟩
theorem okIk_Stand_1_played {P : Program} {w : World} {K : PySem.W.Frag} {mg : Str → Option Value} {base : Heap} (Φ : Fs K mg) : ClI P w K mg base "Stand" 6 f_Stand___init__ 1 ["played"] (gPerm [(false, 0), (false, 1), (true, 0)]) := by
  obtain ⟨fd, fD⟩ := Φ.d_Stand___init__
  exact ⟨_, _, fd, ["self", "row", "played"], ⟨fn_Stand___init__ Φ fD, ar_fnM⟩, Φ.k_Stand, Φ.km_Stand___init__, BnM.perm fD 2 ["played"] [(false, 0), (false, 1), (true, 0)] fun _ _ _ _ _ _ us ws h1 h2 => match us, ws, h1, h2 with | [_, _], [_], _, _ => rfl⟩
theorem okIk_Stand_0_row_d {P : Program} {w : World} {K : PySem.W.Frag} {mg : Str → Option Value} {base : Heap} (Φ : Fs K mg) : ClI P w K mg base "Stand" 6 f_Stand___init__ 0 ["row"] (gDfl [(false, 0), (true, 0)] [.tup []]) := by
  obtain ⟨fd, fD⟩ := Φ.d_Stand___init__
  exact ⟨_, _, fd, ["self", "row", "played"], ⟨fn_Stand___init__ Φ fD, ar_fnM⟩, Φ.k_Stand, Φ.km_Stand___init__, BnM.dfl fD 1 ["row"] [(false, 0), (true, 0)] [.tup []] (by simp) (md_tup (Φ.et (("Stand", some "__init__"), "played") (List.mem_of_getElem? (i := 0) rfl))) fun _ _ _ _ _ _ us mv ws h1 h2 h3 => match us, mv, ws, h1, h2, h3 with | [_], [_], [_], _, _, _ => ⟨_, _, _, _, _, _, rfl, rfl, rfl⟩⟩
theorem sc_order_errors : FnScope ["order", "gaps", "many", "at", "gap"] ["order", "gaps", "many"] (defScope st_order_errors) := ⟨rfl, rfl, rfl, by decide +kernel, rfl, by decide +kernel, by decide +kernel⟩
def b_order_errors : MS := (sSeq (sIf (bNot (bVal (mUn (dIsi "list") (mVar 0)))) (sRet (mLst (mCons (mC .non) mNil))) sNx) (sSeq (sFor (iEnumM (mCons (mVar 0) mNil)) (tgTup [3, 4]) (sIf (bOr (bVal (mBin dEqA (mVar 3) (mVar 2))) (bOr (bNot (bVal (mCallG 1 0 gPos f_is_whole (mCons (mVar 4) mNil) mNil))) (bOr (bNot (bVal (mChain dLe dLt (mC (.int 0)) (mVar 4) (mVar 1)))) (bVal (mBin (dIn false) (mVar 4) (mSl kFz (mVar 0) oNone (oSome (mVar 3)))))))) (sRet (mLst (mCons (mVar 3) mNil))) sNx)) (sRet (mIf (bVal (mBin dLt (mCall dLen (mCons (mVar 0) mNil)) (mVar 2))) (mLst (mCons (mCall dLen (mCons (mVar 0) mNil)) mNil)) (mLst mNil)))))
def f_order_errors : List D → M D := fnM 3 5 b_order_errors
theorem fn_order_errors {P : Program} {w : World} {K : PySem.W.Frag} {mg : Str → Option Value} {base : Heap} (Φ : Fs K mg) {fd : FuncData} (fD : FunD K "order_errors" "order_errors" (defArgs st_order_errors) (defBody st_order_errors) (defScope st_order_errors) [] [] (He.ga K "order_errors") fd) : FnG P w K mg base (CXn P w) 2 (He.ga K "order_errors") fd ["order", "gaps", "many"] (spM K mg 3 f_order_errors) := by
  have sc := sc_order_errors
  refine fn_ok fD sc_order_errors rfl rfl fun cdv A outer s H E hr tk hp => ?_
  exact (ss_cons (s_if (sb_not (sb_val (se_isi (by decide) (se_var (i := 0)) Φ.f_isinstance Φ.f_list boot_list))) (ss_one (s_ret (se_lst (sa_cons se_non sa_nil)))) ss_nil) (ss_cons (s_for hp rfl (si_enum Φ.f_enumerate (sa_cons (se_var (i := 0)) sa_nil)) (sg_tup rfl (sgs_cons (i := 3) sc.nd (sgs_cons (i := 4) sc.nd sgs_nil))) (ss_one (s_if (PW.pt (sw_or (sb_cmpR (op_eqA (un64 hr)) m_eqA (se_var (i := 3)) (se_var (i := 2)) (by first | exact nobehind _ (by decide) (by decide) | rfl)) (sw_or (sb_not (sb_val (se_fnG (ok_is_whole Φ) hr (by decide) tk (sc_some (sa_cons (se_var (i := 4)) sa_nil) sk_nil)))) (sw_or (sb_not (sb_chain op_le m_le op_lt m_lt se_int (se_var (i := 4)) (se_var (i := 1)))) (sw_or1 (sb_in hr (se_var (i := 4)) (se_slice newK_fz (se_var (i := 0)) so_none (so_some (se_var (i := 3)))))))))) (ss_one (s_ret (se_lst (sa_cons (se_var (i := 3)) sa_nil)))) ss_nil))) (ss_one (s_ret (se_if (sb_cmpR op_lt m_lt (se_callB call_lenAll m_len rfl Φ.f_len boot_len (sa_cons (se_var (i := 0)) sa_nil)) (se_var (i := 2)) (by first | exact nobehind _ (by decide) (by decide) | rfl)) (se_lst (sa_cons (se_callB call_lenAll m_len rfl Φ.f_len boot_len (sa_cons (se_var (i := 0)) sa_nil)) sa_nil)) (se_lst sa_nil))))))
theorem ok_order_errors {P : Program} {w : World} {K : PySem.W.Frag} {mg : Str → Option Value} {base : Heap} (Φ : Fs K mg) : ClG P w K mg base "order_errors" 2 f_order_errors 3 [] gPos := by
  obtain ⟨fd, fD⟩ := Φ.d_order_errors
  exact ⟨⟨_, fd, ["order", "gaps", "many"], ⟨fn_order_errors Φ fD, ar_fnM⟩, Φ.g_order_errors, fD.kp, BnM.pos (fD.bindsN fun _ _ _ _ _ _ us hl => match us, hl with | [_, _, _], _ => rfl) 3 rfl⟩⟩
theorem sc_check_order : FnScope ["order", "gaps", "many", "wrong"] ["order", "gaps", "many"] (defScope st_check_order) := ⟨rfl, rfl, rfl, by decide +kernel, rfl, by decide +kernel, by decide +kernel⟩
def b_check_order : MS := (sSeq (sAsg (mCallG 3 0 gPos f_order_errors (mCons (mVar 0) (mCons (mVar 1) (mCons (mVar 2) mNil))) mNil) (tgName 3)) (sIf (bVal (mBin dNeA (mVar 3) (mLst mNil))) (sRaise "NoOrder" (mBin dIdx (mVar 3) (mC (.int 0)))) sNx))
def f_check_order : List D → M D := fnM 3 4 b_check_order
theorem fn_check_order {P : Program} {w : World} {K : PySem.W.Frag} {mg : Str → Option Value} {base : Heap} (Φ : Fs K mg) {fd : FuncData} (fD : FunD K "check_order" "check_order" (defArgs st_check_order) (defBody st_check_order) (defScope st_check_order) [] [] (He.ga K "check_order") fd) : FnG P w K mg base (CXn P w) 3 (He.ga K "check_order") fd ["order", "gaps", "many"] (spM K mg 3 f_check_order) := by
  have sc := sc_check_order
  refine fn_ok fD sc_check_order rfl rfl fun cdv A outer s H E hr tk hp => ?_
  exact (ss_cons (s_set (i := 3) sc.nd (se_fnG (ok_order_errors Φ) hr (by decide) tk (sc_some (sa_cons (se_var (i := 0)) (sa_cons (se_var (i := 1)) (sa_cons (se_var (i := 2)) sa_nil))) sk_nil))) (ss_one (s_if (sb_cmpR (op_neA (un64 hr)) m_neA (se_var (i := 3)) (se_lst sa_nil) (by first | exact nobehind _ (by decide) (by decide) | rfl)) (ss_one (s_raise (clP_NoOrder Φ) (xt_of (x := xr_NoOrder) Φ.xf (List.mem_of_getElem? (i := 6) rfl)) rfl hr (by decide) tk (se_idx hr (se_var (i := 3)) se_int))) ss_nil)))
theorem ok_check_order {P : Program} {w : World} {K : PySem.W.Frag} {mg : Str → Option Value} {base : Heap} (Φ : Fs K mg) : ClG P w K mg base "check_order" 3 f_check_order 3 [] gPos := by
  obtain ⟨fd, fD⟩ := Φ.d_check_order
  exact ⟨⟨_, fd, ["order", "gaps", "many"], ⟨fn_check_order Φ fD, ar_fnM⟩, Φ.g_check_order, fD.kp, BnM.pos (fD.bindsN fun _ _ _ _ _ _ us hl => match us, hl with | [_, _, _], _ => rfl) 3 rfl⟩⟩
theorem sc_history_of : FnScope ["row", "order", "players", "standing", "found", "gap", "left", "right", "winner", "loser"] ["row", "order"] (defScope st_history_of) := ⟨rfl, rfl, rfl, by decide +kernel, rfl, by decide +kernel, by decide +kernel⟩
def b_history_of : MS := (sSeq (sExpr (mCallG 3 0 gPos f_check_order (mCons (mVar 1) (mCons (mBin dSub (mLenO "Row" f_Row___len__ (mVar 0)) (mC (.int 1))) (mCons (mBin dSub (mLenO "Row" f_Row___len__ (mVar 0)) (mC (.int 1))) mNil))) mNil)) (sSeq (sAsg (mMthG "Row" "players" 0 0 gPos f_Row_players (mVar 0) mNil mNil) (tgName 2)) (sSeq (sAsg (mCall (dLrg kCe) (mCons (mCall dLen (mCons (mVar 2) mNil)) mNil)) (tgName 3)) (sSeq (sAsg (mCel mNil) (tgName 4)) (sSeq (sFor (iAny (mVar 1)) (tgName 5) (sSeq (sAsg (mCallG 2 0 gPos f_sides (mCons (mVar 3) (mCons (mVar 5) mNil)) mNil) (tgTup [6, 7])) (sSeq (sAsg (mIf (bVal (mMthG "Row" "beats" 2 0 gPos f_Row_beats (mVar 0) (mCons (mBin dIdx (mVar 2) (mVar 6)) (mCons (mBin dIdx (mVar 2) (mVar 7)) mNil)) mNil)) (mTup (mCons (mVar 6) (mCons (mVar 7) mNil))) (mTup (mCons (mVar 7) (mCons (mVar 6) mNil)))) (tgTup [8, 9])) (sSeq (sExpr (mMeth "list" gAppend (mVar 4) (mCons (mTup (mCons (mVar 5) (mCons (mBin dIdx (mVar 2) (mVar 8)) (mCons (mBin dIdx (mVar 2) (mVar 9)) mNil)))) mNil))) (sExpr (mMeth "list" gRemove (mVar 3) (mCons (mVar 9) mNil))))))) (sRet (mFrz (mVar 4))))))))
def f_history_of : List D → M D := fnM 2 10 b_history_of
theorem fn_history_of {P : Program} {w : World} {K : PySem.W.Frag} {mg : Str → Option Value} {base : Heap} (Φ : Fs K mg) {fd : FuncData} (fD : FunD K "history_of" "history_of" (defArgs st_history_of) (defBody st_history_of) (defScope st_history_of) [] [] (He.ga K "history_of") fd) : FnG P w K mg base (CXn P w) 5 (He.ga K "history_of") fd ["row", "order"] (spM K mg 2 f_history_of) := by
  have sc := sc_history_of
  refine fn_ok fD sc_history_of rfl rfl fun cdv A outer s H E hr tk hp => ?_
  exact (ss_cons (s_expr (se_fnG (ok_check_order Φ) hr (by decide) tk (sc_some (sa_cons (se_var (i := 1)) (sa_cons (se_bin op_sub m_sub (se_lenO (okE_Row___len__ Φ) hr (by decide) tk (se_var (i := 0)) Φ.f_len) se_int) (sa_cons (se_bin op_sub m_sub (se_lenO (okE_Row___len__ Φ) hr (by decide) tk (se_var (i := 0)) Φ.f_len) se_int) sa_nil))) sk_nil))) (ss_cons (s_set (i := 2) sc.nd (se_mthG (okm_Row_players Φ) hr (by decide) tk (se_var (i := 0)) (sc_none sk_nil))) (ss_cons (s_set (i := 3) sc.nd (se_lrg1 newK_ce rfl Φ.f_list Φ.f_range (se_callB call_lenAll m_len rfl Φ.f_len boot_len (sa_cons (se_var (i := 2)) sa_nil)))) (ss_cons (s_set (i := 4) sc.nd (se_cel sa_nil)) (ss_cons (s_for hp rfl (si_any (se_var (i := 1))) (sg_name (i := 5) sc.nd) (ss_cons (s_asg (se_fnG (ok_sides Φ) hr (by decide) tk (sc_some (sa_cons (se_var (i := 3)) (sa_cons (se_var (i := 5)) sa_nil)) sk_nil)) (sg_tup rfl (sgs_cons (i := 6) sc.nd (sgs_cons (i := 7) sc.nd sgs_nil)))) (ss_cons (s_asg (se_if (sb_val (se_mthG (okm_Row_beats Φ) hr (by decide) tk (se_var (i := 0)) (sc_some (sa_cons (se_idx hr (se_var (i := 2)) (se_var (i := 6))) (sa_cons (se_idx hr (se_var (i := 2)) (se_var (i := 7))) sa_nil)) sk_nil))) (se_tup (sa_cons (se_var (i := 6)) (sa_cons (se_var (i := 7)) sa_nil))) (se_tup (sa_cons (se_var (i := 7)) (sa_cons (se_var (i := 6)) sa_nil)))) (sg_tup rfl (sgs_cons (i := 8) sc.nd (sgs_cons (i := 9) sc.nd sgs_nil)))) (ss_cons (s_expr (se_meth F.plainAttrs_list F.slot_list_append F.type_list_append mt_append m_append (se_var (i := 4)) (sa_cons (se_tup (sa_cons (se_var (i := 5)) (sa_cons (se_idx hr (se_var (i := 2)) (se_var (i := 8))) (sa_cons (se_idx hr (se_var (i := 2)) (se_var (i := 9))) sa_nil)))) sa_nil))) (ss_one (s_expr (se_meth F.plainAttrs_list F.slot_list_remove F.type_list_remove mt_remove m_remove (se_var (i := 3)) (sa_cons (se_var (i := 9)) sa_nil)))))))) (ss_one (s_ret (se_frz (se_var (i := 4))))))))))
theorem okk_history_of_0_order_row {P : Program} {w : World} {K : PySem.W.Frag} {mg : Str → Option Value} {base : Heap} (Φ : Fs K mg) : ClG P w K mg base "history_of" 5 f_history_of 0 ["order", "row"] (gPerm [(true, 1), (true, 0)]) := by
  obtain ⟨fd, fD⟩ := Φ.d_history_of
  exact ⟨⟨_, fd, ["row", "order"], ⟨fn_history_of Φ fD, ar_fnM⟩, Φ.g_history_of, fD.kp, BnM.perm fD 0 ["order", "row"] [(true, 1), (true, 0)] fun _ _ _ _ _ _ us ws h1 h2 => match us, ws, h1, h2 with | [], [_, _], _, _ => rfl⟩⟩
theorem ok_history_of {P : Program} {w : World} {K : PySem.W.Frag} {mg : Str → Option Value} {base : Heap} (Φ : Fs K mg) : ClG P w K mg base "history_of" 5 f_history_of 2 [] gPos := by
  obtain ⟨fd, fD⟩ := Φ.d_history_of
  exact ⟨⟨_, fd, ["row", "order"], ⟨fn_history_of Φ fD, ar_fnM⟩, Φ.g_history_of, fD.kp, BnM.pos (fD.bindsN fun _ _ _ _ _ _ us hl => match us, hl with | [_, _], _ => rfl) 2 rfl⟩⟩
theorem sc_lots_of : FnScope ["row", "order", "lots", "gap", "winner", "loser", "one"] ["row", "order"] (defScope st_lots_of) := ⟨rfl, rfl, rfl, by decide +kernel, rfl, by decide +kernel, by decide +kernel⟩
def b_lots_of : MS := (sSeq (sAsg (mCel (mCons (mMthG "Row" "players" 0 0 gPos f_Row_players (mVar 0) mNil mNil) mNil)) (tgName 2)) (sSeq (sFor (iAny (mCallG 2 0 gPos f_history_of (mCons (mVar 0) (mCons (mVar 1) mNil)) mNil)) (tgTup [3, 4, 5]) (sExpr (mMeth "list" gAppend (mVar 2) (mCons (mComp kFz (iSeq (mBin dIdx (mVar 2) (mUn dNeg (mC (.int 1))))) (tgName 6) (bVal (mBin dNeA (mVar 6) (mVar 5))) (mVar 6) [6]) mNil)))) (sRet (mFrz (mVar 2)))))
def f_lots_of : List D → M D := fnM 2 7 b_lots_of
theorem fn_lots_of {P : Program} {w : World} {K : PySem.W.Frag} {mg : Str → Option Value} {base : Heap} (Φ : Fs K mg) {fd : FuncData} (fD : FunD K "lots_of" "lots_of" (defArgs st_lots_of) (defBody st_lots_of) (defScope st_lots_of) [] [] (He.ga K "lots_of") fd) : FnG P w K mg base (CXn P w) 6 (He.ga K "lots_of") fd ["row", "order"] (spM K mg 2 f_lots_of) := by
  have sc := sc_lots_of
  refine fn_ok fD sc_lots_of rfl rfl fun cdv A outer s H E hr tk hp => ?_
  exact (ss_cons (s_set (i := 2) sc.nd (se_cel (sa_cons (se_mthG (okm_Row_players Φ) hr (by decide) tk (se_var (i := 0)) (sc_none sk_nil)) sa_nil))) (ss_cons (s_for hp rfl (si_any (se_fnG (ok_history_of Φ) hr (by decide) tk (sc_some (sa_cons (se_var (i := 0)) (sa_cons (se_var (i := 1)) sa_nil)) sk_nil))) (sg_tup rfl (sgs_cons (i := 3) sc.nd (sgs_cons (i := 4) sc.nd (sgs_cons (i := 5) sc.nd sgs_nil)))) (ss_one (s_expr (se_meth F.plainAttrs_list F.slot_list_append F.type_list_append mt_append m_append (se_var (i := 2)) (sa_cons (se_comp (own := [("one", 6)]) kFz_ok rfl sc.nd (si_seq (se_idx hr (se_var (i := 2)) (se_neg se_int))) (blkOk_by (by kernel_rfl)) (by decide) (fun _ _ _ _ _ => (sg_name (i := 6) sc.nd)) (fun _ _ _ _ _ => (sts_one (sb_cmpR (op_neA (un64 hr)) m_neA (se_var (i := 6)) (se_var (i := 5)) (by first | exact nobehind _ (by decide) (by decide) | rfl)))) (fun _ _ _ _ _ => (se_var (i := 6)))) sa_nil))))) (ss_one (s_ret (se_frz (se_var (i := 2)))))))
theorem okk_lots_of_0_order_row {P : Program} {w : World} {K : PySem.W.Frag} {mg : Str → Option Value} {base : Heap} (Φ : Fs K mg) : ClG P w K mg base "lots_of" 6 f_lots_of 0 ["order", "row"] (gPerm [(true, 1), (true, 0)]) := by
  obtain ⟨fd, fD⟩ := Φ.d_lots_of
  exact ⟨⟨_, fd, ["row", "order"], ⟨fn_lots_of Φ fD, ar_fnM⟩, Φ.g_lots_of, fD.kp, BnM.perm fD 0 ["order", "row"] [(true, 1), (true, 0)] fun _ _ _ _ _ _ us ws h1 h2 => match us, ws, h1, h2 with | [], [_, _], _, _ => rfl⟩⟩
theorem ok_lots_of {P : Program} {w : World} {K : PySem.W.Frag} {mg : Str → Option Value} {base : Heap} (Φ : Fs K mg) : ClG P w K mg base "lots_of" 6 f_lots_of 2 [] gPos := by
  obtain ⟨fd, fD⟩ := Φ.d_lots_of
  exact ⟨⟨_, fd, ["row", "order"], ⟨fn_lots_of Φ fD, ar_fnM⟩, Φ.g_lots_of, fD.kp, BnM.pos (fD.bindsN fun _ _ _ _ _ _ us hl => match us, hl with | [_, _], _ => rfl) 2 rfl⟩⟩
theorem sc_last_of : FnScope ["row", "order"] ["row", "order"] (defScope st_last_of) := ⟨rfl, rfl, rfl, by decide +kernel, rfl, by decide +kernel, by decide +kernel⟩
def b_last_of : MS := (sRet (mBin dIdx (mBin dIdx (mCallG 2 0 gPos f_lots_of (mCons (mVar 0) (mCons (mVar 1) mNil)) mNil) (mUn dNeg (mC (.int 1)))) (mC (.int 0))))
def f_last_of : List D → M D := fnM 2 2 b_last_of
theorem fn_last_of {P : Program} {w : World} {K : PySem.W.Frag} {mg : Str → Option Value} {base : Heap} (Φ : Fs K mg) {fd : FuncData} (fD : FunD K "last_of" "last_of" (defArgs st_last_of) (defBody st_last_of) (defScope st_last_of) [] [] (He.ga K "last_of") fd) : FnG P w K mg base (CXn P w) 7 (He.ga K "last_of") fd ["row", "order"] (spM K mg 2 f_last_of) := by
  have sc := sc_last_of
  refine fn_ok fD sc_last_of rfl rfl fun cdv A outer s H E hr tk hp => ?_
  exact (ss_one (s_ret (se_idx hr (se_idx hr (se_fnG (ok_lots_of Φ) hr (by decide) tk (sc_some (sa_cons (se_var (i := 0)) (sa_cons (se_var (i := 1)) sa_nil)) sk_nil)) (se_neg se_int)) se_int)))
theorem okk_last_of_0_order_row {P : Program} {w : World} {K : PySem.W.Frag} {mg : Str → Option Value} {base : Heap} (Φ : Fs K mg) : ClG P w K mg base "last_of" 7 f_last_of 0 ["order", "row"] (gPerm [(true, 1), (true, 0)]) := by
  obtain ⟨fd, fD⟩ := Φ.d_last_of
  exact ⟨⟨_, fd, ["row", "order"], ⟨fn_last_of Φ fD, ar_fnM⟩, Φ.g_last_of, fD.kp, BnM.perm fD 0 ["order", "row"] [(true, 1), (true, 0)] fun _ _ _ _ _ _ us ws h1 h2 => match us, ws, h1, h2 with | [], [_, _], _, _ => rfl⟩⟩
theorem ok_last_of {P : Program} {w : World} {K : PySem.W.Frag} {mg : Str → Option Value} {base : Heap} (Φ : Fs K mg) : ClG P w K mg base "last_of" 7 f_last_of 2 [] gPos := by
  obtain ⟨fd, fD⟩ := Φ.d_last_of
  exact ⟨⟨_, fd, ["row", "order"], ⟨fn_last_of Φ fD, ar_fnM⟩, Φ.g_last_of, fD.kp, BnM.pos (fD.bindsN fun _ _ _ _ _ _ us hl => match us, hl with | [_, _], _ => rfl) 2 rfl⟩⟩
theorem sc__law_plays_right : FnScope ["_law_own", "_law_ways", "_law_stand", "_law_far"] ["_law_own", "_law_ways"] (defScope st__law_plays_right) := ⟨rfl, rfl, rfl, by decide +kernel, rfl, by decide +kernel, by decide +kernel⟩
def b__law_plays_right : MS := (sSeq (sIf (bOr (bVal (mBin dNeA (mCallG 0 2 (gPerm [(true, 1), (true, 0)]) f_history_of mNil (mCons (mVar 1) (mCons (mVar 0) mNil))) (mCallG 2 0 gPos f_history_of (mCons (mVar 0) (mCons (mVar 1) mNil)) mNil))) (bVal (mBin dNeA (mCallG 0 2 (gPerm [(true, 1), (true, 0)]) f_lots_of mNil (mCons (mVar 1) (mCons (mVar 0) mNil))) (mCallG 2 0 gPos f_lots_of (mCons (mVar 0) (mCons (mVar 1) mNil)) mNil)))) (sRet (mC (.bl false))) sNx) (sSeq (sIf (bVal (mBin dNeA (mCallG 0 2 (gPerm [(true, 1), (true, 0)]) f_last_of mNil (mCons (mVar 1) (mCons (mVar 0) mNil))) (mCallG 2 0 gPos f_last_of (mCons (mVar 0) (mCons (mVar 1) mNil)) mNil))) (sRet (mC (.bl false))) sNx) (sSeq (sPar 2 3 (mCons (mNewG "Stand" 0 1 (gDfl [(false, 0), (true, 0)] [.tup []]) f_Stand___init__ mNil (mCons (mVar 0) mNil)) (mCons (mNewG "Stand" 1 1 (gPerm [(false, 0), (false, 1), (true, 0)]) f_Stand___init__ (mCons (mVar 0) mNil) (mCons (mLst mNil) mNil)) mNil))) (sSeq (sIf (bOr (bVal (mBin (dOwn true "Stand" f_Stand___eq__) (mVar 2) (mVar 3))) (bOr (bVal (mBin (dOwn true "Stand" f_Stand___eq__) (mVar 2) (mNewG "Stand" 0 2 (gPerm [(false, 0), (true, 1), (true, 0)]) f_Stand___init__ mNil (mCons (mTup mNil) (mCons (mVar 0) mNil))))) (bVal (mBin (dOwn true "Stand" f_Stand___eq__) (mNewG "Stand" 0 2 (gPerm [(false, 0), (true, 1), (true, 0)]) f_Stand___init__ mNil (mCons (mVar 1) (mCons (mVar 0) mNil))) (mNewG "Stand" 1 1 (gPerm [(false, 0), (false, 1), (true, 0)]) f_Stand___init__ (mCons (mVar 0) mNil) (mCons (mVar 1) mNil)))))) (sRet (mC (.bl false))) sNx) (sSeq (sIf (bOr (bVal (mBin dNeA (mMthG "Stand" "between" 0 1 (gPerm [(false, 0), (true, 0)]) f_Stand_between (mVar 2) mNil (mCons (mBin dIdx (mVar 1) (mC (.int 0))) mNil)) (mMthG "Stand" "between" 1 0 gPos f_Stand_between (mVar 3) (mCons (mBin dIdx (mVar 1) (mC (.int 0))) mNil) mNil))) (bVal (mBin dNeA (mMthG "Stand" "play" 0 1 (gPerm [(false, 0), (true, 0)]) f_Stand_play (mVar 2) mNil (mCons (mBin dIdx (mVar 1) (mC (.int 0))) mNil)) (mMthG "Stand" "play" 1 0 gPos f_Stand_play (mVar 3) (mCons (mBin dIdx (mVar 1) (mC (.int 0))) mNil) mNil)))) (sRet (mC (.bl false))) sNx) (sRet (mBin (dOwn false "Stand" f_Stand___eq__) (mVar 2) (mVar 3))))))))
def f__law_plays_right : List D → M D := fnM 2 4 b__law_plays_right
theorem fn__law_plays_right {P : Program} {w : World} {K : PySem.W.Frag} {mg : Str → Option Value} {base : Heap} (Φ : Fs K mg) {fd : FuncData} (fD : FunD K "_law_plays_right" "_law_plays_right" (defArgs st__law_plays_right) (defBody st__law_plays_right) (defScope st__law_plays_right) [] [] (He.ga K "_law_plays_right") fd) : FnG P w K mg base (CXn P w) 8 (He.ga K "_law_plays_right") fd ["_law_own", "_law_ways"] (spM K mg 2 f__law_plays_right) := by
  have sc := sc__law_plays_right
  refine fn_ok fD sc__law_plays_right rfl rfl fun cdv A outer s H E hr tk hp => ?_
  exact (ss_cons (s_if (PW.pt (sw_or (sb_cmpR (op_neA (un64 hr)) m_neA (se_fnG (okk_history_of_0_order_row Φ) hr (by decide) tk (sc_none (sk_cons (se_var (i := 1)) (sk_cons (se_var (i := 0)) sk_nil)))) (se_fnG (ok_history_of Φ) hr (by decide) tk (sc_some (sa_cons (se_var (i := 0)) (sa_cons (se_var (i := 1)) sa_nil)) sk_nil)) (by first | exact nobehind _ (by decide) (by decide) | rfl)) (sw_or1 (sb_cmpR (op_neA (un64 hr)) m_neA (se_fnG (okk_lots_of_0_order_row Φ) hr (by decide) tk (sc_none (sk_cons (se_var (i := 1)) (sk_cons (se_var (i := 0)) sk_nil)))) (se_fnG (ok_lots_of Φ) hr (by decide) tk (sc_some (sa_cons (se_var (i := 0)) (sa_cons (se_var (i := 1)) sa_nil)) sk_nil)) (by first | exact nobehind _ (by decide) (by decide) | rfl))))) (ss_one (s_ret se_bl)) ss_nil) (ss_cons (s_if (sb_cmpR (op_neA (un64 hr)) m_neA (se_fnG (okk_last_of_0_order_row Φ) hr (by decide) tk (sc_none (sk_cons (se_var (i := 1)) (sk_cons (se_var (i := 0)) sk_nil)))) (se_fnG (ok_last_of Φ) hr (by decide) tk (sc_some (sa_cons (se_var (i := 0)) (sa_cons (se_var (i := 1)) sa_nil)) sk_nil)) (by first | exact nobehind _ (by decide) (by decide) | rfl)) (ss_one (s_ret se_bl)) ss_nil) (ss_cons (s_par rfl sc.nd (sa_cons (se_newG (okIk_Stand_0_row_d Φ) hr (by decide) tk (sc_none (sk_cons (se_var (i := 0)) sk_nil))) (sa_cons (se_newG (okIk_Stand_1_played Φ) hr (by decide) tk (sc_some (sa_cons (se_var (i := 0)) sa_nil) (sk_cons (se_lst sa_nil) sk_nil))) sa_nil)) fun ta h => ps_par rfl sc.nd rfl rfl (by decide) rfl rfl h rfl) (ss_cons (s_if (PW.pt (sw_or (sb_own (neg := true) rfl (okE_Stand___eq__ Φ) hr (by decide) tk (se_var (i := 2)) (se_var (i := 3)) (by first | exact nobehind _ (by decide) (by decide) | rfl)) (sw_or (sb_own (neg := true) rfl (okE_Stand___eq__ Φ) hr (by decide) tk (se_var (i := 2)) (se_newG (okIk_Stand_0_played_row Φ) hr (by decide) tk (sc_none (sk_cons (se_tup sa_nil) (sk_cons (se_var (i := 0)) sk_nil)))) (by first | exact nobehind _ (by decide) (by decide) | rfl)) (sw_or1 (sb_own (neg := true) rfl (okE_Stand___eq__ Φ) hr (by decide) tk (se_newG (okIk_Stand_0_played_row Φ) hr (by decide) tk (sc_none (sk_cons (se_var (i := 1)) (sk_cons (se_var (i := 0)) sk_nil)))) (se_newG (okIk_Stand_1_played Φ) hr (by decide) tk (sc_some (sa_cons (se_var (i := 0)) sa_nil) (sk_cons (se_var (i := 1)) sk_nil))) (by first | exact nobehind _ (by decide) (by decide) | rfl)))))) (ss_one (s_ret se_bl)) ss_nil) (ss_cons (s_if (PW.pt (sw_or (sb_cmpR (op_neA (un64 hr)) m_neA (se_mthG (okmk_Stand_between_0_gap Φ) hr (by decide) tk (se_var (i := 2)) (sc_none (sk_cons (se_idx hr (se_var (i := 1)) se_int) sk_nil))) (se_mthG (okm_Stand_between Φ) hr (by decide) tk (se_var (i := 3)) (sc_some (sa_cons (se_idx hr (se_var (i := 1)) se_int) sa_nil) sk_nil)) (by first | exact nobehind _ (by decide) (by decide) | rfl)) (sw_or1 (sb_cmpR (op_neA (un64 hr)) m_neA (se_mthG (okmk_Stand_play_0_gap Φ) hr (by decide) tk (se_var (i := 2)) (sc_none (sk_cons (se_idx hr (se_var (i := 1)) se_int) sk_nil))) (se_mthG (okm_Stand_play Φ) hr (by decide) tk (se_var (i := 3)) (sc_some (sa_cons (se_idx hr (se_var (i := 1)) se_int) sa_nil) sk_nil)) (by first | exact nobehind _ (by decide) (by decide) | rfl))))) (ss_one (s_ret se_bl)) ss_nil) (ss_one (s_ret (se_own (neg := false) rfl (okE_Stand___eq__ Φ) hr (by decide) tk (se_var (i := 2)) (se_var (i := 3)) (by first | exact nobehind _ (by decide) (by decide) | rfl)))))))))
theorem ok__law_plays_right {P : Program} {w : World} {K : PySem.W.Frag} {mg : Str → Option Value} {base : Heap} (Φ : Fs K mg) : ClG P w K mg base "_law_plays_right" 8 f__law_plays_right 2 [] gPos := by
  obtain ⟨fd, fD⟩ := Φ.d__law_plays_right
  exact ⟨⟨_, fd, ["_law_own", "_law_ways"], ⟨fn__law_plays_right Φ fD, ar_fnM⟩, Φ.g__law_plays_right, fD.kp, BnM.pos (fD.bindsN fun _ _ _ _ _ _ us hl => match us, hl with | [_, _], _ => rfl) 2 rfl⟩⟩
theorem sc__law_pool : FnScope ["_law_script", "_law_k", "_law_cell", "_law_size", "_law_seed"] ["_law_script", "_law_k"] (defScope st__law_pool) := ⟨rfl, rfl, rfl, by decide +kernel, rfl, by decide +kernel, by decide +kernel⟩
def b__law_pool : MS := (sSeq (sAsg (mC (.int 0)) (tgName 2)) (sSeq (sIf (bVal (mBin dLt (mVar 1) (mCall dLen (mCons (mVar 0) mNil)))) (sAsg (mBin dIdx (mVar 0) (mVar 1)) (tgName 2)) sNx) (sSeq (sAsg (mCall dAbs (mCons (mVar 2) mNil)) (tgName 3)) (sSeq (sAsg (mBin dMod (mBin dPow (mBin (dAddK kFz) (mBin (dAddK kFz) (mBin (dAddK kFz) (mBin dMod (mVar 2) (mC (.int 2147483629))) (mBin dMul (mBin dMul (mC (.int 104729)) (mVar 1)) (mVar 1))) (mBin dMul (mC (.int 7919)) (mVar 1))) (mC (.int 11))) (mC (.int 3))) (mC (.int 2147483647))) (tgName 4)) (sRet (mCel (mCons (mBin dMul (mVar 3) (mCall dIntC (mCons (mBin dGe (mVar 3) (mBin dPow (mC (.int 10)) (mC (.int 18)))) mNil))) (mCons (mVar 4) mNil))))))))
def f__law_pool : List D → M D := fnM 2 5 b__law_pool
theorem fn__law_pool {P : Program} {w : World} {K : PySem.W.Frag} {mg : Str → Option Value} {base : Heap} (Φ : Fs K mg) {fd : FuncData} (fD : FunD K "_law_pool" "_law_pool" (defArgs st__law_pool) (defBody st__law_pool) (defScope st__law_pool) [] [] (He.ga K "_law_pool") fd) : FnG P w K mg base (CXn P w) 1 (He.ga K "_law_pool") fd ["_law_script", "_law_k"] (spM K mg 2 f__law_pool) := by
  have sc := sc__law_pool
  refine fn_ok fD sc__law_pool rfl rfl fun cdv A outer s H E hr tk hp => ?_
  exact (ss_cons (s_set (i := 2) sc.nd se_int) (ss_cons (s_if (sb_cmpR op_lt m_lt (se_var (i := 1)) (se_callB call_lenAll m_len rfl Φ.f_len boot_len (sa_cons (se_var (i := 0)) sa_nil)) (by first | exact nobehind _ (by decide) (by decide) | rfl)) (ss_one (s_set (i := 2) sc.nd (se_idx hr (se_var (i := 0)) (se_var (i := 1))))) ss_nil) (ss_cons (s_set (i := 3) sc.nd (se_callB call_abs m_abs rfl Φ.f_abs boot_abs (sa_cons (se_var (i := 2)) sa_nil))) (ss_cons (s_set (i := 4) sc.nd (se_bin op_mod m_mod (se_bin op_pow m_pow (se_bin op_addA (m_add newK_fz) (se_bin op_addA (m_add newK_fz) (se_bin op_addA (m_add newK_fz) (se_bin op_mod m_mod (se_var (i := 2)) se_int) (se_bin op_mulX m_mul (se_bin op_mulX m_mul se_int (se_var (i := 1))) (se_var (i := 1)))) (se_bin op_mulX m_mul se_int (se_var (i := 1)))) se_int) se_int) se_int)) (ss_one (s_ret (se_cel (sa_cons (se_bin op_mulX m_mul (se_var (i := 3)) (se_callTy call_int1 m_intc rfl Φ.f_int boot_int (sa_cons (se_cmpR op_ge m_ge (se_var (i := 3)) (se_bin op_pow m_pow se_int se_int) (by first | exact nobehind _ (by decide) (by decide) | rfl)) sa_nil))) (sa_cons (se_var (i := 4)) sa_nil)))))))))
theorem ok__law_pool {P : Program} {w : World} {K : PySem.W.Frag} {mg : Str → Option Value} {base : Heap} (Φ : Fs K mg) : ClG P w K mg base "_law_pool" 1 f__law_pool 2 [] gPos := by
  obtain ⟨fd, fD⟩ := Φ.d__law_pool
  exact ⟨⟨_, fd, ["_law_script", "_law_k"], ⟨fn__law_pool Φ fD, ar_fnM⟩, Φ.g__law_pool, fD.kp, BnM.pos (fD.bindsN fun _ _ _ _ _ _ us hl => match us, hl with | [_, _], _ => rfl) 2 rfl⟩⟩
theorem sc_Row_beaten : FnScope ["self", "player", "other"] ["self", "player"] (defScope st_Row_beaten) := ⟨rfl, rfl, rfl, by decide +kernel, rfl, by decide +kernel, by decide +kernel⟩
def b_Row_beaten : MS := (sSeq (sExpr (mMthG "Row" "place" 1 0 gPos f_Row_place (mVar 0) (mCons (mVar 1) mNil) mNil)) (sRet (mComp kFz (iAny (mMthG "Row" "players" 0 0 gPos f_Row_players (mVar 0) mNil mNil)) (tgName 2) (bVal (mMthG "Row" "beats" 2 0 gPos f_Row_beats (mVar 0) (mCons (mVar 1) (mCons (mVar 2) mNil)) mNil)) (mVar 2) [2])))
def f_Row_beaten : List D → M D := fnM 2 3 b_Row_beaten
theorem fn_Row_beaten {P : Program} {w : World} {K : PySem.W.Frag} {mg : Str → Option Value} {base : Heap} (Φ : Fs K mg) {fd : FuncData} (fD : FunD K "beaten" "Row.beaten" (defArgs st_Row_beaten) (defBody st_Row_beaten) (defScope st_Row_beaten) [] [] (He.ma K (He.ga K "Row") "beaten") fd) : FnG P w K mg base (CXn P w) 5 (He.ma K (He.ga K "Row") "beaten") fd ["self", "player"] (spM K mg 2 f_Row_beaten) := by
  have sc := sc_Row_beaten
  refine fn_ok fD sc_Row_beaten rfl rfl fun cdv A outer s H E hr tk hp => ?_
  exact (ss_cons (s_expr (se_mthG (okm_Row_place Φ) hr (by decide) tk (se_var (i := 0)) (sc_some (sa_cons (se_var (i := 1)) sa_nil) sk_nil))) (ss_one (s_ret (se_comp (own := [("other", 2)]) kFz_ok rfl sc.nd (si_any (se_mthG (okm_Row_players Φ) hr (by decide) tk (se_var (i := 0)) (sc_none sk_nil))) (blkOk_by (by kernel_rfl)) (by decide) (fun _ _ _ _ _ => (sg_name (i := 2) sc.nd)) (fun _ _ _ _ _ => (sts_one (sb_val (se_mthG (okm_Row_beats Φ) hr (by decide) takes0 (se_var (i := 0)) (sc_some (sa_cons (se_var (i := 1)) (sa_cons (se_var (i := 2)) sa_nil)) sk_nil))))) (fun _ _ _ _ _ => (se_var (i := 2)))))))
theorem okmk_Row_beaten_0_player {P : Program} {w : World} {K : PySem.W.Frag} {mg : Str → Option Value} {base : Heap} (Φ : Fs K mg) : ClM P w K mg base "Row" "beaten" 5 f_Row_beaten 0 ["player"] (gPerm [(false, 0), (true, 0)]) := by
  obtain ⟨fd, fD⟩ := Φ.d_Row_beaten
  exact ⟨_, _, fd, ["self", "player"], ⟨fn_Row_beaten Φ fD, ar_fnM⟩, Φ.k_Row, Φ.kc_Row, Φ.km_Row_beaten, BnM.perm fD 1 ["player"] [(false, 0), (true, 0)] fun _ _ _ _ _ _ us ws h1 h2 => match us, ws, h1, h2 with | [_], [_], _, _ => rfl⟩
theorem okm_Row_beaten {P : Program} {w : World} {K : PySem.W.Frag} {mg : Str → Option Value} {base : Heap} (Φ : Fs K mg) : ClM P w K mg base "Row" "beaten" 5 f_Row_beaten 1 [] gPos := by
  obtain ⟨fd, fD⟩ := Φ.d_Row_beaten
  exact ⟨_, _, fd, ["self", "player"], ⟨fn_Row_beaten Φ fD, ar_fnM⟩, Φ.k_Row, Φ.kc_Row, Φ.km_Row_beaten, BnM.pos (fD.bindsN fun _ _ _ _ _ _ us hl => match us, hl with | [_, _], _ => rfl) 2 rfl⟩
theorem sc_Row_called : FnScope ["self", "names", "players", "led", "one", "other"] ["self", "names"] (defScope st_Row_called) := ⟨rfl, rfl, rfl, by decide +kernel, rfl, by decide +kernel, by decide +kernel⟩
def b_Row_called : MS := (sSeq (sAsg (mMthG "Row" "players" 0 0 gPos f_Row_players (mVar 0) mNil mNil) (tgName 2)) (sSeq (sIf (bNot (bVal (mCallG 3 0 gPos f_is_name_list (mCons (mVar 1) (mCons (mCall dLen (mCons (mVar 2) mNil)) (mCons (mCall dLen (mCons (mVar 2) mNil)) mNil))) mNil))) (sRaise "NoPlayers" (mVar 1)) sNx) (sSeq (sAsg (mCall (dZipD (kDFz false)) (mCons (mVar 2) (mCons (mVar 1) mNil))) (tgName 3)) (sRet (mFrz (mNewG "Row" 2 0 gPos f_Row___init__ (mCons (mCall (dListA kFz) (mCons (mVar 1) mNil)) (mCons (mComp kFz (iAny (mMthG "Row" "verdicts" 0 0 gPos f_Row_verdicts (mVar 0) mNil mNil)) (tgTup [4, 5]) bYes (mTup (mCons (mBin dIdx (mVar 3) (mVar 4)) (mCons (mBin dIdx (mVar 3) (mVar 5)) mNil))) [4, 5]) mNil)) mNil))))))
def f_Row_called : List D → M D := fnM 2 6 b_Row_called
theorem fn_Row_called {P : Program} {w : World} {K : PySem.W.Frag} {mg : Str → Option Value} {base : Heap} (Φ : Fs K mg) {fd : FuncData} (fD : FunD K "called" "Row.called" (defArgs st_Row_called) (defBody st_Row_called) (defScope st_Row_called) [] [] (He.ma K (He.ga K "Row") "called") fd) : FnG P w K mg base (CXn P w) 5 (He.ma K (He.ga K "Row") "called") fd ["self", "names"] (spM K mg 2 f_Row_called) := by
  have sc := sc_Row_called
  refine fn_ok fD sc_Row_called rfl rfl fun cdv A outer s H E hr tk hp => ?_
  exact (ss_cons (s_set (i := 2) sc.nd (se_mthG (okm_Row_players Φ) hr (by decide) tk (se_var (i := 0)) (sc_none sk_nil))) (ss_cons (s_if (sb_not (sb_val (se_fnG (ok_is_name_list Φ) hr (by decide) tk (sc_some (sa_cons (se_var (i := 1)) (sa_cons (se_callB call_lenAll m_len rfl Φ.f_len boot_len (sa_cons (se_var (i := 2)) sa_nil)) (sa_cons (se_callB call_lenAll m_len rfl Φ.f_len boot_len (sa_cons (se_var (i := 2)) sa_nil)) sa_nil))) sk_nil)))) (ss_one (s_raise (clP_NoPlayers Φ) (xt_of (x := xr_NoPlayers) Φ.xf (List.mem_of_getElem? (i := 0) rfl)) rfl hr (by decide) tk (se_var (i := 1)))) ss_nil) (ss_cons (s_set (i := 3) sc.nd (se_dictZip newKd_fz rfl Φ.f_dict Φ.f_zip (sa_cons (se_var (i := 2)) (sa_cons (se_var (i := 1)) sa_nil)))) (ss_one (s_ret (se_frz (se_newG (okI_Row Φ) hr (by decide) tk (sc_some (sa_cons (se_callTy (call_listA rfl) (m_listA newK_fz) rfl Φ.f_list boot_list (sa_cons (se_var (i := 1)) sa_nil)) (sa_cons (se_comp (own := [("one", 4), ("other", 5)]) kFz_ok rfl sc.nd (si_any (se_mthG (okm_Row_verdicts Φ) hr (by decide) tk (se_var (i := 0)) (sc_none sk_nil))) (blkOk_by (by kernel_rfl)) (by decide) (fun _ _ _ _ _ => (sg_tup rfl (sgs_cons (i := 4) sc.nd (sgs_cons (i := 5) sc.nd sgs_nil)))) (fun _ _ _ _ _ => sts_nil) (fun _ _ _ _ _ => (se_tup (sa_cons (se_idx hr (se_var (i := 3)) (se_var (i := 4))) (sa_cons (se_idx hr (se_var (i := 3)) (se_var (i := 5))) sa_nil))))) sa_nil)) sk_nil))))))))
theorem okmk_Row_called_0_names {P : Program} {w : World} {K : PySem.W.Frag} {mg : Str → Option Value} {base : Heap} (Φ : Fs K mg) : ClM P w K mg base "Row" "called" 5 f_Row_called 0 ["names"] (gPerm [(false, 0), (true, 0)]) := by
  obtain ⟨fd, fD⟩ := Φ.d_Row_called
  exact ⟨_, _, fd, ["self", "names"], ⟨fn_Row_called Φ fD, ar_fnM⟩, Φ.k_Row, Φ.kc_Row, Φ.km_Row_called, BnM.perm fD 1 ["names"] [(false, 0), (true, 0)] fun _ _ _ _ _ _ us ws h1 h2 => match us, ws, h1, h2 with | [_], [_], _, _ => rfl⟩
theorem okm_Row_called {P : Program} {w : World} {K : PySem.W.Frag} {mg : Str → Option Value} {base : Heap} (Φ : Fs K mg) : ClM P w K mg base "Row" "called" 5 f_Row_called 1 [] gPos := by
  obtain ⟨fd, fD⟩ := Φ.d_Row_called
  exact ⟨_, _, fd, ["self", "names"], ⟨fn_Row_called Φ fD, ar_fnM⟩, Φ.k_Row, Φ.kc_Row, Φ.km_Row_called, BnM.pos (fD.bindsN fun _ _ _ _ _ _ us hl => match us, hl with | [_, _], _ => rfl) 2 rfl⟩
theorem sc_is_lot : FnScope ["row", "thing", "places", "one"] ["row", "thing"] (defScope st_is_lot) := ⟨rfl, rfl, rfl, by decide +kernel, rfl, by decide +kernel, by decide +kernel⟩
def b_is_lot : MS := (sSeq (sIf (bOr (bNot (bVal (mUn (dIsi "list") (mVar 1)))) (bOr (bVal (mBin dEqA (mVar 1) (mLst mNil))) (bNot (bVal (mCall (dAll fun bs => bs.all id) (mCons (mComp kFz (iAny (mVar 1)) (tgName 3) bYes (mMthG "Row" "has" 1 0 gPos f_Row_has (mVar 0) (mCons (mVar 3) mNil) mNil) [3]) mNil)))))) (sRet (mC (.bl false))) sNx) (sSeq (sAsg (mComp kFz (iAny (mVar 1)) (tgName 3) bYes (mMthG "Row" "place" 1 0 gPos f_Row_place (mVar 0) (mCons (mVar 3) mNil) mNil) [3]) (tgName 2)) (sRet (mBin dEqA (mVar 2) (mSetL (kSortU kFz) (mVar 2))))))
def f_is_lot : List D → M D := fnM 2 4 b_is_lot
theorem fn_is_lot {P : Program} {w : World} {K : PySem.W.Frag} {mg : Str → Option Value} {base : Heap} (Φ : Fs K mg) {fd : FuncData} (fD : FunD K "is_lot" "is_lot" (defArgs st_is_lot) (defBody st_is_lot) (defScope st_is_lot) [] [] (He.ga K "is_lot") fd) : FnG P w K mg base (CXn P w) 4 (He.ga K "is_lot") fd ["row", "thing"] (spM K mg 2 f_is_lot) := by
  have sc := sc_is_lot
  refine fn_ok fD sc_is_lot rfl rfl fun cdv A outer s H E hr tk hp => ?_
  exact (ss_cons (s_if (PW.pt (sw_or (sb_not (sb_val (se_isi (by decide) (se_var (i := 1)) Φ.f_isinstance Φ.f_list boot_list))) (sw_or (sb_cmpR (op_eqA (un64 hr)) m_eqA (se_var (i := 1)) (se_lst sa_nil) (by first | exact nobehind _ (by decide) (by decide) | rfl)) (sw_or1 (sb_not (sb_val (se_callB (cr_all rfl) m_all rfl Φ.f_all boot_all (sa_cons (se_comp (own := [("one", 3)]) kFz_ok rfl sc.nd (si_any (se_var (i := 1))) (blkOk_by (by kernel_rfl)) (by decide) (fun _ _ _ _ _ => (sg_name (i := 3) sc.nd)) (fun _ _ _ _ _ => sts_nil) (fun _ _ _ _ _ => (se_mthG (okm_Row_has Φ) hr (by decide) takes0 (se_var (i := 0)) (sc_some (sa_cons (se_var (i := 3)) sa_nil) sk_nil)))) sa_nil)))))))) (ss_one (s_ret se_bl)) ss_nil) (ss_cons (s_setLc (i := 2) (own := [("one", 3)]) kFz_ok rfl sc.nd (si_any (se_var (i := 1))) (blkOk_by (by kernel_rfl)) (by decide) (fun _ _ _ _ _ => (sg_name (i := 3) sc.nd)) (fun _ _ _ _ _ => sts_nil) (fun _ _ _ _ _ => (se_mthG (okm_Row_place Φ) hr (by decide) takes0 (se_var (i := 0)) (sc_some (sa_cons (se_var (i := 3)) sa_nil) sk_nil))) rfl) (ss_one (s_ret (se_cmpR (op_eqA (un64 hr)) m_eqA (se_var (i := 2)) (se_setL hr (cr_sortU rfl) (use_sortI newK_fz) Φ.f_sorted boot_sorted rfl Φ.f_set (se_var (i := 2))) (by first | exact nobehind _ (by decide) (by decide) | rfl))))))
theorem ok_is_lot {P : Program} {w : World} {K : PySem.W.Frag} {mg : Str → Option Value} {base : Heap} (Φ : Fs K mg) : ClG P w K mg base "is_lot" 4 f_is_lot 2 [] gPos := by
  obtain ⟨fd, fD⟩ := Φ.d_is_lot
  exact ⟨⟨_, fd, ["row", "thing"], ⟨fn_is_lot Φ fD, ar_fnM⟩, Φ.g_is_lot, fD.kp, BnM.pos (fD.bindsN fun _ _ _ _ _ _ us hl => match us, hl with | [_, _], _ => rfl) 2 rfl⟩⟩
theorem sc_Row_part : FnScope ["self", "lot", "verdict"] ["self", "lot"] (defScope st_Row_part) := ⟨rfl, rfl, rfl, by decide +kernel, rfl, by decide +kernel, by decide +kernel⟩
def b_Row_part : MS := (sSeq (sIf (bNot (bVal (mCallG 2 0 gPos f_is_lot (mCons (mVar 0) (mCons (mVar 1) mNil)) mNil))) (sRaise "NoLot" (mVar 1)) sNx) (sRet (mFrz (mNewG "Row" 2 0 gPos f_Row___init__ (mCons (mCall (dListA kFz) (mCons (mVar 1) mNil)) (mCons (mComp kFz (iAny (mMthG "Row" "verdicts" 0 0 gPos f_Row_verdicts (mVar 0) mNil mNil)) (tgName 2) (bAnd (bVal (mBin (dIn false) (mBin dIdx (mVar 2) (mC (.int 0))) (mVar 1))) (bVal (mBin (dIn false) (mBin dIdx (mVar 2) (mC (.int 1))) (mVar 1)))) (mVar 2) [2]) mNil)) mNil))))
def f_Row_part : List D → M D := fnM 2 3 b_Row_part
theorem fn_Row_part {P : Program} {w : World} {K : PySem.W.Frag} {mg : Str → Option Value} {base : Heap} (Φ : Fs K mg) {fd : FuncData} (fD : FunD K "part" "Row.part" (defArgs st_Row_part) (defBody st_Row_part) (defScope st_Row_part) [] [] (He.ma K (He.ga K "Row") "part") fd) : FnG P w K mg base (CXn P w) 5 (He.ma K (He.ga K "Row") "part") fd ["self", "lot"] (spM K mg 2 f_Row_part) := by
  have sc := sc_Row_part
  refine fn_ok fD sc_Row_part rfl rfl fun cdv A outer s H E hr tk hp => ?_
  exact (ss_cons (s_if (sb_not (sb_val (se_fnG (ok_is_lot Φ) hr (by decide) tk (sc_some (sa_cons (se_var (i := 0)) (sa_cons (se_var (i := 1)) sa_nil)) sk_nil)))) (ss_one (s_raise (clP_NoLot Φ) (xt_of (x := xr_NoLot) Φ.xf (List.mem_of_getElem? (i := 3) rfl)) rfl hr (by decide) tk (se_var (i := 1)))) ss_nil) (ss_one (s_ret (se_frz (se_newG (okI_Row Φ) hr (by decide) tk (sc_some (sa_cons (se_callTy (call_listA rfl) (m_listA newK_fz) rfl Φ.f_list boot_list (sa_cons (se_var (i := 1)) sa_nil)) (sa_cons (se_comp (own := [("verdict", 2)]) kFz_ok rfl sc.nd (si_any (se_mthG (okm_Row_verdicts Φ) hr (by decide) tk (se_var (i := 0)) (sc_none sk_nil))) (blkOk_by (by kernel_rfl)) (by decide) (fun _ _ _ _ _ => (sg_name (i := 2) sc.nd)) (fun _ _ _ _ _ => (sts_one (PW.pt (sw_and (sb_in hr (se_idx hr (se_var (i := 2)) se_int) (se_var (i := 1))) (sw_and1 (sb_in hr (se_idx hr (se_var (i := 2)) se_int) (se_var (i := 1)))))))) (fun _ _ _ _ _ => (se_var (i := 2)))) sa_nil)) sk_nil))))))
theorem okmk_Row_part_0_lot {P : Program} {w : World} {K : PySem.W.Frag} {mg : Str → Option Value} {base : Heap} (Φ : Fs K mg) : ClM P w K mg base "Row" "part" 5 f_Row_part 0 ["lot"] (gPerm [(false, 0), (true, 0)]) := by
  obtain ⟨fd, fD⟩ := Φ.d_Row_part
  exact ⟨_, _, fd, ["self", "lot"], ⟨fn_Row_part Φ fD, ar_fnM⟩, Φ.k_Row, Φ.kc_Row, Φ.km_Row_part, BnM.perm fD 1 ["lot"] [(false, 0), (true, 0)] fun _ _ _ _ _ _ us ws h1 h2 => match us, ws, h1, h2 with | [_], [_], _, _ => rfl⟩
theorem okm_Row_part {P : Program} {w : World} {K : PySem.W.Frag} {mg : Str → Option Value} {base : Heap} (Φ : Fs K mg) : ClM P w K mg base "Row" "part" 5 f_Row_part 1 [] gPos := by
  obtain ⟨fd, fD⟩ := Φ.d_Row_part
  exact ⟨_, _, fd, ["self", "lot"], ⟨fn_Row_part Φ fD, ar_fnM⟩, Φ.k_Row, Φ.kc_Row, Φ.km_Row_part, BnM.pos (fD.bindsN fun _ _ _ _ _ _ us hl => match us, hl with | [_, _], _ => rfl) 2 rfl⟩
theorem sc_Row_turned : FnScope ["self", "pairs", "players", "named", "verdicts", "one", "other", "pair"] ["self", "pairs"] (defScope st_Row_turned) := ⟨rfl, rfl, rfl, by decide +kernel, rfl, by decide +kernel, by decide +kernel⟩
def b_Row_turned : MS := (sSeq (sAsg (mMthG "Row" "players" 0 0 gPos f_Row_players (mVar 0) mNil mNil) (tgName 2)) (sSeq (sIf (bNot (bVal (mCallG 2 0 gPos f_is_pair_list (mCons (mVar 1) (mCons (mVar 2) mNil)) mNil))) (sRaise "NoPairs" (mVar 1)) sNx) (sSeq (sAsg (mDictC true (kDFz true) (iAny (mVar 1)) (tgName 7) bYes (mTup (mCons (mCall (dMMx minI minS) (mCons (mVar 7) mNil)) (mCons (mCall (dMMx maxI maxS) (mCons (mVar 7) mNil)) mNil))) (mC (.bl true)) [7]) (tgName 3)) (sSeq (sAsg (mCel mNil) (tgName 4)) (sSeq (sFor (iAny (mMthG "Row" "verdicts" 0 0 gPos f_Row_verdicts (mVar 0) mNil mNil)) (tgTup [5, 6]) (sExpr (mMeth "list" gAppend (mVar 4) (mCons (mIf (bVal (mBin (dIn false) (mTup (mCons (mCall (dMMx minI minS) (mCons (mVar 5) (mCons (mVar 6) mNil))) (mCons (mCall (dMMx maxI maxS) (mCons (mVar 5) (mCons (mVar 6) mNil))) mNil))) (mVar 3))) (mTup (mCons (mVar 6) (mCons (mVar 5) mNil))) (mTup (mCons (mVar 5) (mCons (mVar 6) mNil)))) mNil)))) (sRet (mFrz (mNewG "Row" 2 0 gPos f_Row___init__ (mCons (mVar 2) (mCons (mFrz (mVar 4)) mNil)) mNil))))))))
def f_Row_turned : List D → M D := fnM 2 8 b_Row_turned
theorem fn_Row_turned {P : Program} {w : World} {K : PySem.W.Frag} {mg : Str → Option Value} {base : Heap} (Φ : Fs K mg) {fd : FuncData} (fD : FunD K "turned" "Row.turned" (defArgs st_Row_turned) (defBody st_Row_turned) (defScope st_Row_turned) [] [] (He.ma K (He.ga K "Row") "turned") fd) : FnG P w K mg base (CXn P w) 5 (He.ma K (He.ga K "Row") "turned") fd ["self", "pairs"] (spM K mg 2 f_Row_turned) := by
  have sc := sc_Row_turned
  refine fn_ok fD sc_Row_turned rfl rfl fun cdv A outer s H E hr tk hp => ?_
  exact (ss_cons (s_set (i := 2) sc.nd (se_mthG (okm_Row_players Φ) hr (by decide) tk (se_var (i := 0)) (sc_none sk_nil))) (ss_cons (s_if (sb_not (sb_val (se_fnG (ok_is_pair_list Φ) hr (by decide) tk (sc_some (sa_cons (se_var (i := 1)) (sa_cons (se_var (i := 2)) sa_nil)) sk_nil)))) (ss_one (s_raise (clP_NoPairs Φ) (xt_of (x := xr_NoPairs) Φ.xf (List.mem_of_getElem? (i := 2) rfl)) rfl hr (by decide) tk (se_var (i := 1)))) ss_nil) (ss_cons (s_setDc (i := 3) (own := [("pair", 7)]) hr (kDFz_ok true) rfl sc.nd (si_any (se_var (i := 1))) (blkOk_by (by kernel_rfl)) (by decide) (fun _ _ _ _ _ => (sg_name (i := 7) sc.nd)) (fun _ _ _ _ _ => sts_nil) (fun _ _ _ _ _ => (se_tup (sa_cons (se_callB (call_minX rfl) m_mmx rfl Φ.f_min boot_min (sa_cons (se_var (i := 7)) sa_nil)) (sa_cons (se_callB (call_maxX rfl) m_mmx rfl Φ.f_max boot_max (sa_cons (se_var (i := 7)) sa_nil)) sa_nil)))) (fun _ _ _ _ _ => se_bl) rfl) (ss_cons (s_set (i := 4) sc.nd (se_cel sa_nil)) (ss_cons (s_for hp rfl (si_any (se_mthG (okm_Row_verdicts Φ) hr (by decide) tk (se_var (i := 0)) (sc_none sk_nil))) (sg_tup rfl (sgs_cons (i := 5) sc.nd (sgs_cons (i := 6) sc.nd sgs_nil))) (ss_one (s_expr (se_meth F.plainAttrs_list F.slot_list_append F.type_list_append mt_append m_append (se_var (i := 4)) (sa_cons (se_if (sb_in hr (se_tup (sa_cons (se_callB (call_minX rfl) m_mmx rfl Φ.f_min boot_min (sa_cons (se_var (i := 5)) (sa_cons (se_var (i := 6)) sa_nil))) (sa_cons (se_callB (call_maxX rfl) m_mmx rfl Φ.f_max boot_max (sa_cons (se_var (i := 5)) (sa_cons (se_var (i := 6)) sa_nil))) sa_nil))) (se_var (i := 3))) (se_tup (sa_cons (se_var (i := 6)) (sa_cons (se_var (i := 5)) sa_nil))) (se_tup (sa_cons (se_var (i := 5)) (sa_cons (se_var (i := 6)) sa_nil)))) sa_nil))))) (ss_one (s_ret (se_frz (se_newG (okI_Row Φ) hr (by decide) tk (sc_some (sa_cons (se_var (i := 2)) (sa_cons (se_frz (se_var (i := 4))) sa_nil)) sk_nil))))))))))
theorem okmk_Row_turned_0_pairs {P : Program} {w : World} {K : PySem.W.Frag} {mg : Str → Option Value} {base : Heap} (Φ : Fs K mg) : ClM P w K mg base "Row" "turned" 5 f_Row_turned 0 ["pairs"] (gPerm [(false, 0), (true, 0)]) := by
  obtain ⟨fd, fD⟩ := Φ.d_Row_turned
  exact ⟨_, _, fd, ["self", "pairs"], ⟨fn_Row_turned Φ fD, ar_fnM⟩, Φ.k_Row, Φ.kc_Row, Φ.km_Row_turned, BnM.perm fD 1 ["pairs"] [(false, 0), (true, 0)] fun _ _ _ _ _ _ us ws h1 h2 => match us, ws, h1, h2 with | [_], [_], _, _ => rfl⟩
theorem okm_Row_turned {P : Program} {w : World} {K : PySem.W.Frag} {mg : Str → Option Value} {base : Heap} (Φ : Fs K mg) : ClM P w K mg base "Row" "turned" 5 f_Row_turned 1 [] gPos := by
  obtain ⟨fd, fD⟩ := Φ.d_Row_turned
  exact ⟨_, _, fd, ["self", "pairs"], ⟨fn_Row_turned Φ fD, ar_fnM⟩, Φ.k_Row, Φ.kc_Row, Φ.km_Row_turned, BnM.pos (fD.bindsN fun _ _ _ _ _ _ us hl => match us, hl with | [_, _], _ => rfl) 2 rfl⟩
theorem sc__law_rows_right : FnScope ["_law_own", "_law_some", "_law_won_here", "_law_x", "_law_y"] ["_law_own", "_law_some", "_law_won_here"] (defScope st__law_rows_right) := ⟨rfl, rfl, rfl, by decide +kernel, rfl, by decide +kernel, by decide +kernel⟩
def b__law_rows_right : MS := (sSeq (sIf (bOr (bVal (mBin (dOwn true "Row" f_Row___eq__) (mFrz (mNewG "Row" 0 2 (gPerm [(false, 0), (true, 1), (true, 0)]) f_Row___init__ mNil (mCons (mVar 2) (mCons (mVar 1) mNil)))) (mVar 0))) (bVal (mBin (dIsB true) (mCallG 0 1 (gPerm [(true, 0)]) f_is_name mNil (mCons (mBin dIdx (mVar 1) (mC (.int 0))) mNil)) (mC (.bl true))))) (sRet (mC (.bl false))) sNx) (sSeq (sPar 3 4 (mCons (mBin dIdx (mVar 1) (mC (.int 0))) (mCons (mBin dIdx (mVar 1) (mC (.int 1))) mNil))) (sSeq (sIf (bOr (bVal (mBin (dIsB true) (mMthG "Row" "has" 0 1 (gPerm [(false, 0), (true, 0)]) f_Row_has (mVar 0) mNil (mCons (mVar 3) mNil)) (mC (.bl true)))) (bOr (bVal (mBin dNeA (mMthG "Row" "place" 0 1 (gPerm [(false, 0), (true, 0)]) f_Row_place (mVar 0) mNil (mCons (mVar 4) mNil)) (mC (.int 1)))) (bVal (mBin dNeA (mMthG "Row" "beats" 0 2 (gPerm [(false, 0), (true, 1), (true, 0)]) f_Row_beats (mVar 0) mNil (mCons (mVar 4) (mCons (mVar 3) mNil))) (mMthG "Row" "beats" 2 0 gPos f_Row_beats (mVar 0) (mCons (mVar 3) (mCons (mVar 4) mNil)) mNil))))) (sRet (mC (.bl false))) sNx) (sSeq (sIf (bOr (bVal (mBin dEqA (mMthG "Row" "beats" 0 2 (gPerm [(false, 0), (true, 1), (true, 0)]) f_Row_beats (mVar 0) mNil (mCons (mVar 3) (mCons (mVar 4) mNil))) (mMthG "Row" "beats" 2 0 gPos f_Row_beats (mVar 0) (mCons (mVar 3) (mCons (mVar 4) mNil)) mNil))) (bVal (mBin dNeA (mMthG "Row" "beaten" 0 1 (gPerm [(false, 0), (true, 0)]) f_Row_beaten (mVar 0) mNil (mCons (mVar 3) mNil)) (mMthG "Row" "beaten" 1 0 gPos f_Row_beaten (mVar 0) (mCons (mVar 3) mNil) mNil)))) (sRet (mC (.bl false))) sNx) (sSeq (sIf (bOr (bVal (mBin (dOwn true "Row" f_Row___eq__) (mMthG "Row" "turned" 0 1 (gPerm [(false, 0), (true, 0)]) f_Row_turned (mVar 0) mNil (mCons (mLst (mCons (mTup (mCons (mVar 3) (mCons (mVar 4) mNil))) mNil)) mNil)) (mMthG "Row" "turned" 1 0 gPos f_Row_turned (mVar 0) (mCons (mLst (mCons (mTup (mCons (mVar 3) (mCons (mVar 4) mNil))) mNil)) mNil) mNil))) (bVal (mBin (dOwn true "Row" f_Row___eq__) (mMthG "Row" "part" 0 1 (gPerm [(false, 0), (true, 0)]) f_Row_part (mVar 0) mNil (mCons (mLst (mCons (mVar 4) mNil)) mNil)) (mMthG "Row" "part" 1 0 gPos f_Row_part (mVar 0) (mCons (mLst (mCons (mVar 4) mNil)) mNil) mNil)))) (sRet (mC (.bl false))) sNx) (sRet (mBin (dOwn false "Row" f_Row___eq__) (mMthG "Row" "called" 0 1 (gPerm [(false, 0), (true, 0)]) f_Row_called (mVar 0) mNil (mCons (mUn (dRev kFz) (mVar 1)) mNil)) (mMthG "Row" "called" 1 0 gPos f_Row_called (mVar 0) (mCons (mUn (dRev kFz) (mVar 1)) mNil) mNil))))))))
def f__law_rows_right : List D → M D := fnM 3 5 b__law_rows_right
theorem fn__law_rows_right {P : Program} {w : World} {K : PySem.W.Frag} {mg : Str → Option Value} {base : Heap} (Φ : Fs K mg) {fd : FuncData} (fD : FunD K "_law_rows_right" "_law_rows_right" (defArgs st__law_rows_right) (defBody st__law_rows_right) (defScope st__law_rows_right) [] [] (He.ga K "_law_rows_right") fd) : FnG P w K mg base (CXn P w) 6 (He.ga K "_law_rows_right") fd ["_law_own", "_law_some", "_law_won_here"] (spM K mg 3 f__law_rows_right) := by
  have sc := sc__law_rows_right
  refine fn_ok fD sc__law_rows_right rfl rfl fun cdv A outer s H E hr tk hp => ?_
  exact (ss_cons (s_if (PW.pt (sw_or (sb_own (neg := true) rfl (okE_Row___eq__ Φ) hr (by decide) tk (se_frz (se_newG (okIk_Row_0_verdicts_players Φ) hr (by decide) tk (sc_none (sk_cons (se_var (i := 2)) (sk_cons (se_var (i := 1)) sk_nil))))) (se_var (i := 0)) (by first | exact nobehind _ (by decide) (by decide) | rfl)) (sw_or1 (sb_cmpR op_notBl m_notB (se_fnG (okk_is_name_0_thing Φ) hr (by decide) tk (sc_none (sk_cons (se_idx hr (se_var (i := 1)) se_int) sk_nil))) se_bl (by first | exact nobehind _ (by decide) (by decide) | rfl))))) (ss_one (s_ret se_bl)) ss_nil) (ss_cons (s_par rfl sc.nd (sa_cons (se_idx hr (se_var (i := 1)) se_int) (sa_cons (se_idx hr (se_var (i := 1)) se_int) sa_nil)) fun ta h => ps_par rfl sc.nd rfl rfl (by decide) rfl rfl h rfl) (ss_cons (s_if (PW.pt (sw_or (sb_cmpR op_notBl m_notB (se_mthG (okmk_Row_has_0_thing Φ) hr (by decide) tk (se_var (i := 0)) (sc_none (sk_cons (se_var (i := 3)) sk_nil))) se_bl (by first | exact nobehind _ (by decide) (by decide) | rfl)) (sw_or (sb_cmpR (op_neA (un64 hr)) m_neA (se_mthG (okmk_Row_place_0_player Φ) hr (by decide) tk (se_var (i := 0)) (sc_none (sk_cons (se_var (i := 4)) sk_nil))) se_int (by first | exact nobehind _ (by decide) (by decide) | rfl)) (sw_or1 (sb_cmpR (op_neA (un64 hr)) m_neA (se_mthG (okmk_Row_beats_0_other_one Φ) hr (by decide) tk (se_var (i := 0)) (sc_none (sk_cons (se_var (i := 4)) (sk_cons (se_var (i := 3)) sk_nil)))) (se_mthG (okm_Row_beats Φ) hr (by decide) tk (se_var (i := 0)) (sc_some (sa_cons (se_var (i := 3)) (sa_cons (se_var (i := 4)) sa_nil)) sk_nil)) (by first | exact nobehind _ (by decide) (by decide) | rfl)))))) (ss_one (s_ret se_bl)) ss_nil) (ss_cons (s_if (PW.pt (sw_or (sb_cmpR (op_eqA (un64 hr)) m_eqA (se_mthG (okmk_Row_beats_0_other_one Φ) hr (by decide) tk (se_var (i := 0)) (sc_none (sk_cons (se_var (i := 3)) (sk_cons (se_var (i := 4)) sk_nil)))) (se_mthG (okm_Row_beats Φ) hr (by decide) tk (se_var (i := 0)) (sc_some (sa_cons (se_var (i := 3)) (sa_cons (se_var (i := 4)) sa_nil)) sk_nil)) (by first | exact nobehind _ (by decide) (by decide) | rfl)) (sw_or1 (sb_cmpR (op_neA (un64 hr)) m_neA (se_mthG (okmk_Row_beaten_0_player Φ) hr (by decide) tk (se_var (i := 0)) (sc_none (sk_cons (se_var (i := 3)) sk_nil))) (se_mthG (okm_Row_beaten Φ) hr (by decide) tk (se_var (i := 0)) (sc_some (sa_cons (se_var (i := 3)) sa_nil) sk_nil)) (by first | exact nobehind _ (by decide) (by decide) | rfl))))) (ss_one (s_ret se_bl)) ss_nil) (ss_cons (s_if (PW.pt (sw_or (sb_own (neg := true) rfl (okE_Row___eq__ Φ) hr (by decide) tk (se_mthG (okmk_Row_turned_0_pairs Φ) hr (by decide) tk (se_var (i := 0)) (sc_none (sk_cons (se_lst (sa_cons (se_tup (sa_cons (se_var (i := 3)) (sa_cons (se_var (i := 4)) sa_nil))) sa_nil)) sk_nil))) (se_mthG (okm_Row_turned Φ) hr (by decide) tk (se_var (i := 0)) (sc_some (sa_cons (se_lst (sa_cons (se_tup (sa_cons (se_var (i := 3)) (sa_cons (se_var (i := 4)) sa_nil))) sa_nil)) sa_nil) sk_nil)) (by first | exact nobehind _ (by decide) (by decide) | rfl)) (sw_or1 (sb_own (neg := true) rfl (okE_Row___eq__ Φ) hr (by decide) tk (se_mthG (okmk_Row_part_0_lot Φ) hr (by decide) tk (se_var (i := 0)) (sc_none (sk_cons (se_lst (sa_cons (se_var (i := 4)) sa_nil)) sk_nil))) (se_mthG (okm_Row_part Φ) hr (by decide) tk (se_var (i := 0)) (sc_some (sa_cons (se_lst (sa_cons (se_var (i := 4)) sa_nil)) sa_nil) sk_nil)) (by first | exact nobehind _ (by decide) (by decide) | rfl))))) (ss_one (s_ret se_bl)) ss_nil) (ss_one (s_ret (se_own (neg := false) rfl (okE_Row___eq__ Φ) hr (by decide) tk (se_mthG (okmk_Row_called_0_names Φ) hr (by decide) tk (se_var (i := 0)) (sc_none (sk_cons (se_rev newK_fz (se_var (i := 1))) sk_nil))) (se_mthG (okm_Row_called Φ) hr (by decide) tk (se_var (i := 0)) (sc_some (sa_cons (se_rev newK_fz (se_var (i := 1))) sa_nil) sk_nil)) (by first | exact nobehind _ (by decide) (by decide) | rfl)))))))))
theorem ok__law_rows_right {P : Program} {w : World} {K : PySem.W.Frag} {mg : Str → Option Value} {base : Heap} (Φ : Fs K mg) : ClG P w K mg base "_law_rows_right" 6 f__law_rows_right 3 [] gPos := by
  obtain ⟨fd, fD⟩ := Φ.d__law_rows_right
  exact ⟨⟨_, fd, ["_law_own", "_law_some", "_law_won_here"], ⟨fn__law_rows_right Φ fD, ar_fnM⟩, Φ.g__law_rows_right, fD.kp, BnM.pos (fD.bindsN fun _ _ _ _ _ _ us hl => match us, hl with | [_, _, _], _ => rfl) 3 rfl⟩⟩
theorem sc__law_take : FnScope ["_law_pool_here", "_law_many", "_law_found"] ["_law_pool_here", "_law_many"] (defScope st__law_take) := ⟨rfl, rfl, rfl, by decide +kernel, rfl, by decide +kernel, by decide +kernel⟩
def b__law_take : MS := (sSeq (sIf (bVal (mBin dGt (mBin dIdx (mVar 0) (mC (.int 0))) (mC (.int 0)))) (sSeq (sAsg (mBin dMod (mBin dIdx (mVar 0) (mC (.int 0))) (mVar 1)) (tgName 2)) (sSeq (sStore (mVar 0) (mC (.int 0)) (mBin dFdiv (mBin dIdx (mVar 0) (mC (.int 0))) (mVar 1))) (sRet (mVar 2)))) sNx) (sSeq (sStore (mVar 0) (mC (.int 1)) (mBin dMod (mBin (dAddK kFz) (mBin dMul (mBin dIdx (mVar 0) (mC (.int 1))) (mC (.int 48271))) (mC (.int 11))) (mC (.int 2147483647)))) (sRet (mBin dMod (mBin dFdiv (mBin dMod (mBin dMul (mBin dIdx (mVar 0) (mC (.int 1))) (mBin dIdx (mVar 0) (mC (.int 1)))) (mC (.int 2147483629))) (mC (.int 64))) (mVar 1)))))
def f__law_take : List D → M D := fnM 2 3 b__law_take
theorem fn__law_take {P : Program} {w : World} {K : PySem.W.Frag} {mg : Str → Option Value} {base : Heap} (Φ : Fs K mg) {fd : FuncData} (fD : FunD K "_law_take" "_law_take" (defArgs st__law_take) (defBody st__law_take) (defScope st__law_take) [] [] (He.ga K "_law_take") fd) : FnG P w K mg base (CXn P w) 1 (He.ga K "_law_take") fd ["_law_pool_here", "_law_many"] (spM K mg 2 f__law_take) := by
  have sc := sc__law_take
  refine fn_ok fD sc__law_take rfl rfl fun cdv A outer s H E hr tk hp => ?_
  exact (ss_cons (s_if (sb_cmpR op_gt m_gt (se_idx hr (se_var (i := 0)) se_int) se_int (by first | exact nobehind _ (by decide) (by decide) | rfl)) (ss_cons (s_set (i := 2) sc.nd (se_bin op_mod m_mod (se_idx hr (se_var (i := 0)) se_int) (se_var (i := 1)))) (ss_cons (s_store hr (se_var (i := 0)) se_int (se_bin op_fdivW m_fdiv (se_idx hr (se_var (i := 0)) se_int) (se_var (i := 1)))) (ss_one (s_ret (se_var (i := 2)))))) ss_nil) (ss_cons (s_store hr (se_var (i := 0)) se_int (se_bin op_mod m_mod (se_bin op_addA (m_add newK_fz) (se_bin op_mulX m_mul (se_idx hr (se_var (i := 0)) se_int) se_int) se_int) se_int)) (ss_one (s_ret (se_bin op_mod m_mod (se_bin op_fdivW m_fdiv (se_bin op_mod m_mod (se_bin op_mulX m_mul (se_idx hr (se_var (i := 0)) se_int) (se_idx hr (se_var (i := 0)) se_int)) se_int) se_int) (se_var (i := 1)))))))
theorem ok__law_take {P : Program} {w : World} {K : PySem.W.Frag} {mg : Str → Option Value} {base : Heap} (Φ : Fs K mg) : ClG P w K mg base "_law_take" 1 f__law_take 2 [] gPos := by
  obtain ⟨fd, fD⟩ := Φ.d__law_take
  exact ⟨⟨_, fd, ["_law_pool_here", "_law_many"], ⟨fn__law_take Φ fD, ar_fnM⟩, Φ.g__law_take, fD.kp, BnM.pos (fD.bindsN fun _ _ _ _ _ _ us hl => match us, hl with | [_, _], _ => rfl) 2 rfl⟩⟩
theorem sc__law_won : FnScope ["_law_pool_here", "_law_some", "_law_found", "_law_at", "_law_x", "_law_y"] ["_law_pool_here", "_law_some"] (defScope st__law_won) := ⟨rfl, rfl, rfl, by decide +kernel, rfl, by decide +kernel, by decide +kernel⟩
def b__law_won : MS := (sSeq (sAsg (mCel mNil) (tgName 2)) (sSeq (sFor (iEnumM (mCons (mVar 1) mNil)) (tgTup [3, 4]) (sFor (iSeq (mSl kFz (mVar 1) (oSome (mBin (dAddK kFz) (mVar 3) (mC (.int 1)))) oNone)) (tgName 5) (sExpr (mMeth "list" gAppend (mVar 2) (mCons (mIf (bVal (mBin dEqA (mCallG 2 0 gPos f__law_take (mCons (mVar 0) (mCons (mC (.int 2)) mNil)) mNil) (mC (.int 0)))) (mTup (mCons (mVar 4) (mCons (mVar 5) mNil))) (mTup (mCons (mVar 5) (mCons (mVar 4) mNil)))) mNil))))) (sRet (mFrz (mVar 2)))))
def f__law_won : List D → M D := fnM 2 6 b__law_won
theorem fn__law_won {P : Program} {w : World} {K : PySem.W.Frag} {mg : Str → Option Value} {base : Heap} (Φ : Fs K mg) {fd : FuncData} (fD : FunD K "_law_won" "_law_won" (defArgs st__law_won) (defBody st__law_won) (defScope st__law_won) [] [] (He.ga K "_law_won") fd) : FnG P w K mg base (CXn P w) 2 (He.ga K "_law_won") fd ["_law_pool_here", "_law_some"] (spM K mg 2 f__law_won) := by
  have sc := sc__law_won
  refine fn_ok fD sc__law_won rfl rfl fun cdv A outer s H E hr tk hp => ?_
  exact (ss_cons (s_set (i := 2) sc.nd (se_cel sa_nil)) (ss_cons (s_for hp rfl (si_enum Φ.f_enumerate (sa_cons (se_var (i := 1)) sa_nil)) (sg_tup rfl (sgs_cons (i := 3) sc.nd (sgs_cons (i := 4) sc.nd sgs_nil))) (ss_one (s_for hp rfl (si_seq (se_slice newK_fz (se_var (i := 1)) (so_some (se_bin op_addA (m_add newK_fz) (se_var (i := 3)) se_int)) so_none)) (sg_name (i := 5) sc.nd) (ss_one (s_expr (se_meth F.plainAttrs_list F.slot_list_append F.type_list_append mt_append m_append (se_var (i := 2)) (sa_cons (se_if (sb_cmpR (op_eqA (un64 hr)) m_eqA (se_fnG (ok__law_take Φ) hr (by decide) tk (sc_some (sa_cons (se_var (i := 0)) (sa_cons se_int sa_nil)) sk_nil)) se_int (by first | exact nobehind _ (by decide) (by decide) | rfl)) (se_tup (sa_cons (se_var (i := 4)) (sa_cons (se_var (i := 5)) sa_nil))) (se_tup (sa_cons (se_var (i := 5)) (sa_cons (se_var (i := 4)) sa_nil)))) sa_nil))))))) (ss_one (s_ret (se_frz (se_var (i := 2)))))))
theorem ok__law_won {P : Program} {w : World} {K : PySem.W.Frag} {mg : Str → Option Value} {base : Heap} (Φ : Fs K mg) : ClG P w K mg base "_law_won" 2 f__law_won 2 [] gPos := by
  obtain ⟨fd, fD⟩ := Φ.d__law_won
  exact ⟨⟨_, fd, ["_law_pool_here", "_law_some"], ⟨fn__law_won Φ fD, ar_fnM⟩, Φ.g__law_won, fD.kp, BnM.pos (fD.bindsN fun _ _ _ _ _ _ us hl => match us, hl with | [_, _], _ => rfl) 2 rfl⟩⟩
theorem sc_law : FnScope ["_law_script", "_law_k", "_law_pool_here", "_law_many", "_law_some", "_law_won_here", "_law_left", "_law_ways", "_law_own", "_law_spot", "_law_turn"] ["_law_script"] (defScope st_law) := ⟨rfl, rfl, rfl, by decide +kernel, rfl, by decide +kernel, by decide +kernel⟩
def b_law : MS := (sSeq (sFor (CL.iRng1 (mCons (mCall (dMMx maxI maxS) (mCons (mC (.int 1)) (mCons (mCall (dMMx minI minS) (mCons (mCall dLen (mCons (mVar 0) mNil)) (mCons (mC (.int 4)) mNil))) mNil))) mNil)) (tgName 1) (sSeq (sAsg (mCallG 2 0 gPos f__law_pool (mCons (mVar 0) (mCons (mVar 1) mNil)) mNil) (tgName 2)) (sSeq (sAsg (mBin (dAddK kFz) (mC (.int 2)) (mCallG 2 0 gPos f__law_take (mCons (mVar 2) (mCons (mC (.int 8)) mNil)) mNil)) (tgName 3)) (sSeq (sAsg (mUn (dRev kFz) (mComp kFz (CL.iRng1 (mCons (mVar 3) mNil)) (tgName 9) bYes (mBin (dAddK kFz) (mBin (dAddK kFz) (mC (.str "p")) (mBin dIdx (mC (.str "abcdefghij")) (mVar 9))) (mC (.str "x"))) [9])) (tgName 4)) (sSeq (sAsg (mCallG 2 0 gPos f__law_won (mCons (mVar 2) (mCons (mVar 4) mNil)) mNil) (tgName 5)) (sSeq (sAsg (mCall (dLrg kCe) (mCons (mBin dSub (mVar 3) (mC (.int 1))) mNil)) (tgName 6)) (sSeq (sAsg (mComp kFz (CL.iRng1 (mCons (mBin dSub (mVar 3) (mC (.int 1))) mNil)) (tgName 10) bYes (mMeth "list" gPopAt (mVar 6) (mCons (mCallG 2 0 gPos f__law_take (mCons (mVar 2) (mCons (mCall dLen (mCons (mVar 6) mNil)) mNil)) mNil) mNil)) [10]) (tgName 7)) (sSeq (sAsg (mFrz (mNewG "Row" 2 0 gPos f_Row___init__ (mCons (mVar 4) (mCons (mVar 5) mNil)) mNil)) (tgName 8)) (sIf (bOr (bNot (bVal (mCallG 3 0 gPos f__law_rows_right (mCons (mVar 8) (mCons (mVar 4) (mCons (mVar 5) mNil))) mNil))) (bNot (bVal (mCallG 2 0 gPos f__law_plays_right (mCons (mVar 8) (mCons (mVar 7) mNil)) mNil)))) (sRet (mC (.bl false))) sNx))))))))) (sRet (mC (.bl true))))
def f_law : List D → M D := fnM 1 11 b_law
theorem fn_law {P : Program} {w : World} {K : PySem.W.Frag} {mg : Str → Option Value} {base : Heap} (Φ : Fs K mg) {fd : FuncData} (fD : FunD K "law" "law" (defArgs st_law) (defBody st_law) (defScope st_law) [] [] (He.ga K "law") fd) : FnG P w K mg base (CXn P w) 9 (He.ga K "law") fd ["_law_script"] (spM K mg 1 f_law) := by
  have sc := sc_law
  refine fn_ok fD sc_law rfl rfl fun cdv A outer s H E hr tk hp => ?_
  exact (ss_cons (s_for hp rfl (si_range1 Φ.f_range (sa_cons (se_callB (call_maxX rfl) m_mmx rfl Φ.f_max boot_max (sa_cons se_int (sa_cons (se_callB (call_minX rfl) m_mmx rfl Φ.f_min boot_min (sa_cons (se_callB call_lenAll m_len rfl Φ.f_len boot_len (sa_cons (se_var (i := 0)) sa_nil)) (sa_cons se_int sa_nil))) sa_nil))) sa_nil)) (sg_name (i := 1) sc.nd) (ss_cons (s_set (i := 2) sc.nd (se_fnG (ok__law_pool Φ) hr (by decide) tk (sc_some (sa_cons (se_var (i := 0)) (sa_cons (se_var (i := 1)) sa_nil)) sk_nil))) (ss_cons (s_set (i := 3) sc.nd (se_bin op_addA (m_add newK_fz) se_int (se_fnG (ok__law_take Φ) hr (by decide) tk (sc_some (sa_cons (se_var (i := 2)) (sa_cons se_int sa_nil)) sk_nil)))) (ss_cons (s_set (i := 4) sc.nd (se_rev newK_fz (se_comp (own := [("_law_spot", 9)]) kFz_ok rfl sc.nd (si_range1 Φ.f_range (sa_cons (se_var (i := 3)) sa_nil)) (blkOk_by (by kernel_rfl)) (by decide) (fun _ _ _ _ _ => (sg_name (i := 9) sc.nd)) (fun _ _ _ _ _ => sts_nil) (fun _ _ _ _ _ => (se_bin op_addA (m_add newK_fz) (se_bin op_addA (m_add newK_fz) se_str (se_idx hr se_str (se_var (i := 9)))) se_str))))) (ss_cons (s_set (i := 5) sc.nd (se_fnG (ok__law_won Φ) hr (by decide) tk (sc_some (sa_cons (se_var (i := 2)) (sa_cons (se_var (i := 4)) sa_nil)) sk_nil))) (ss_cons (s_set (i := 6) sc.nd (se_lrg1 newK_ce rfl Φ.f_list Φ.f_range (se_bin op_sub m_sub (se_var (i := 3)) se_int))) (ss_cons (s_setLc (i := 7) (own := [("_law_turn", 10)]) kFz_ok rfl sc.nd (si_range1 Φ.f_range (sa_cons (se_bin op_sub m_sub (se_var (i := 3)) se_int) sa_nil)) (blkOk_by (by kernel_rfl)) (by decide) (fun _ _ _ _ _ => (sg_name (i := 10) sc.nd)) (fun _ _ _ _ _ => sts_nil) (fun _ _ _ _ _ => (se_meth F.plainAttrs_list F.slot_list_pop F.type_list_pop mt_popAt m_popAt (se_var (i := 6)) (sa_cons (se_fnG (ok__law_take Φ) hr (by decide) takes0 (sc_some (sa_cons (se_var (i := 2)) (sa_cons (se_callB call_lenAll m_len rfl Φ.f_len boot_len (sa_cons (se_var (i := 6)) sa_nil)) sa_nil)) sk_nil)) sa_nil))) rfl) (ss_cons (s_set (i := 8) sc.nd (se_frz (se_newG (okI_Row Φ) hr (by decide) tk (sc_some (sa_cons (se_var (i := 4)) (sa_cons (se_var (i := 5)) sa_nil)) sk_nil)))) (ss_one (s_if (PW.pt (sw_or (sb_not (sb_val (se_fnG (ok__law_rows_right Φ) hr (by decide) tk (sc_some (sa_cons (se_var (i := 8)) (sa_cons (se_var (i := 4)) (sa_cons (se_var (i := 5)) sa_nil))) sk_nil)))) (sw_or1 (sb_not (sb_val (se_fnG (ok__law_plays_right Φ) hr (by decide) tk (sc_some (sa_cons (se_var (i := 8)) (sa_cons (se_var (i := 7)) sa_nil)) sk_nil))))))) (ss_one (s_ret se_bl)) ss_nil)))))))))) (ss_one (s_ret se_bl)))
theorem ok_law {P : Program} {w : World} {K : PySem.W.Frag} {mg : Str → Option Value} {base : Heap} (Φ : Fs K mg) : ClG P w K mg base "law" 9 f_law 1 [] gPos := by
  obtain ⟨fd, fD⟩ := Φ.d_law
  exact ⟨⟨_, fd, ["_law_script"], ⟨fn_law Φ fD, ar_fnM⟩, Φ.g_law, fD.kp, BnM.pos (fD.bindsN fun _ _ _ _ _ _ us hl => match us, hl with | [_], _ => rfl) 1 rfl⟩⟩
end Gk12

namespace Gk12
open PySem CL PU
section
variable {S : Kn} {names : List Str} {vds l : List (Str × Str)}
abbrev NOk (names : List Str) : Prop := NamesOk f_is_name names
theorem nameList_ok (N : NOk names) {lo hi : Int} (h1 : lo ≤ names.length) (h2 : (names.length : Int) ≤ hi) : Pu S (f_is_name_list [nmD names, .int lo, .int hi]) (.bl true) := by
  have hl := N.few
  refine pFn (rSeq (nIf (pbOr_ff (pbNot_f (pVal (pUn (pVar rfl) (isi_lst ls_lst)))) (pbNot_f (pVal (pChain_tt (pVar rfl) (pCall (pCons (pVar rfl) pNil) (len_ls ls_lst)) (le_t ?_) (pVar rfl) (le_t ?_))))) nNx) (rRet (pAnd_tt (pCall (pCons (pCompY ok0 (fun s => [some (nmD names), some (.int lo), some (.int hi), some (dS s)]) (fun _ => .bl true) (wAny (pVar rfl) ls_lst) (lim_of ?_) (fun _ _ => rfl) fun s hs => pCallG (pCons (pVar rfl) pNil) pNil (.rfl_ (N.nm s hs))) pNil) all_t) (pBin (pSetL (pVar rfl) ls_lst (setOk_S ?_) (.rfl_ fun _ => rfl)) (pCall (pCons (pVar rfl) pNil) (len_ls ls_lst)) (eq_t ?_)))))
  · rw [List.length_map]; exact h1
  · rw [List.length_map]; exact h2
  · omega
  · omega
  · rw [ddL_new _ (nodup_map (fun _ _ => dS_inj) N.nd)]
theorem pair_ok (N : NOk names) {p : Str × Str} (h : p.1 ∈ names ∧ p.2 ∈ names ∧ p.1 ≠ p.2) : Pu S (f_is_pair [dP p, nmD names]) (.bl true) := by
  refine pFn (rSeq (nIf (pbOr_ff (pbNot_f (pVal (pUn (pVar rfl) isi_tup))) (pbOr_ff (pVal (pBin (pCall (pCons (pVar rfl) pNil) lenT) pC (ne_f rfl))) (pbNot_f (pVal (pCall (pCons (pCompY ok0 (fun s => [some (dP p), some (nmD names), some (dS s)]) (fun _ => .bl true) (l := [p.1, p.2]) (g := dS) (wAnyT (pVar rfl)) (lim_of (show 2 ≤ 1000 by decide)) (fun _ _ => rfl) fun s hs => pUn (pVar rfl) isi_str) pNil) all_t))))) nNx)
    (rRet (pAnd_tt (pBin (pBin (pVar rfl) pC idx0) (pBin (pVar rfl) pC idx1) (nes_t h.2.2)) (pAnd_tt (pBin (pBin (pVar rfl) pC idx0) (pVar rfl) ((in_nm (N.ok _ h.1) N.ok false).cast ?_)) (pBin (pBin (pVar rfl) pC idx1) (pVar rfl) ((in_nm (N.ok _ h.2.1) N.ok false).cast ?_))))))
  · rw [decide_eq_true h.1]; rfl
  · rw [decide_eq_true h.2.1]; rfl
theorem mm1 {S : Kn} {p : Str × Str} (g : Int → Int → Int) (f : Str → Str → Str) : Pu S (dMMx g f [dP p]) (.str (f p.1 p.2)) := .rfl_ fun _ => rfl
theorem mm2 {S : Kn} {a b : Str} (g : Int → Int → Int) (f : Str → Str → Str) : Pu S (dMMx g f [dS a, dS b]) (.str (f a b)) := .rfl_ fun _ => rfl
theorem pairList_ok (N : NOk names) (V : PairsOk names l) (hl : l.length ≤ 300) : Pu S (f_is_pair_list [vdD l, nmD names]) (.bl true) := by
  refine pFn (rSeq (nIf (pbOr_ff (pbNot_f (pVal (pUn (pVar rfl) (isi_lst ls_lst)))) (pbNot_f (pVal (pCall (pCons (pCompY ok0 (fun p => [some (vdD l), some (nmD names), some (dP p)]) (fun _ => .bl true) (wAny (pVar rfl) ls_lst) (lim_of (by omega)) (fun _ _ => rfl) fun p hp => pCallG (pCons (pVar rfl) (pCons (pVar rfl) pNil)) pNil (pair_ok N (V.mem p hp))) pNil) all_t)))) nNx)
    (rRet (pBin (pSetC ok0 (fun p => [some (vdD l), some (nmD names), some (dP p)]) (fun p => dP (un p)) (wAny (pVar rfl) ls_lst) (fun _ _ => rfl) (fun p hp => pTup (pCons (pCall (pCons (pVar rfl) pNil) (mm1 minI minS)) (pCons (pCall (pCons (pVar rfl) pNil) (mm1 maxI maxS)) pNil))) ?_ (.rfl_ fun _ => rfl)) (pCall (pCons (pVar rfl) pNil) (len_ls ls_lst)) (eq_t ?_))))
  · have e : l.map (fun p => dP (un p)) = (l.map un).map dP := by rw [List.map_map]; rfl
    rw [e]
    exact setOk_P (by rw [List.length_map]; exact hl)
  · have e : l.map (fun p => dP (un p)) = (l.map un).map dP := by rw [List.map_map]; rfl
    rw [e, ddL_new _ (nodup_map (fun _ _ => dP_inj) V.nd)]
    simp
theorem keyOk_P {p : Str × Str} : keyOk true (dP p) = true := rfl
theorem sFld_ok {cs : List Str} {f c : Str} {o v : ME} {env : CL.Env} {i : Nat} {fds : List (Str × D)} {y : D} (hv : Pu (one i (.ins c fds)) (v env) y) (ho : Pu (one i (.ins c fds)) (o env) (.cel i)) (hc : cs.contains c = true) (hf : fds.length < 1000) (μ : Mem) (h : μ[i]? = some (some (.ins c fds))) :
    ∃ ν, CL.sFld cs f o v env μ = .nx env ((μ ++ ν).set i (some (.ins c (putD f y fds)))) := by
  obtain ⟨ν, e1⟩ := hv μ h
  have h1 := (one i (.ins c fds)).ext ν h
  obtain ⟨ν2, e2⟩ := ho _ h1
  have h2 : (μ ++ ν ++ ν2)[i]? = some (some (.ins c fds)) := (one i (.ins c fds)).ext ν2 h1
  refine ⟨ν ++ ν2, ?_⟩
  unfold CL.sFld
  rw [e1]
  show (o env (μ ++ ν)).st env _ = _
  rw [e2]
  show (match (μ ++ ν ++ ν2)[i]? with
    | some (some (.ins c fds)) => if cs.contains c = true ∧ fds.length < 1000 then Sr.nx env ((μ ++ ν ++ ν2).set i (some (.ins c (putD f y fds)))) else .no
    | _ => .no) = _
  rw [h2]
  dsimp only
  rw [if_pos ⟨hc, hf⟩, List.append_assoc]
theorem plc_new (N : NOk names) : kdsOf (names.zipIdx.map fun p => [dS p.1, D.int (p.2 : Nat)]) = plc names := by
  refine kdsOf_new (fk := fun p : Str × Nat => dS p.1) (fv := fun p => .int (p.2 : Nat)) _ ?_
  have e : (names.zipIdx.map fun p => dS p.1) = names.map dS := by
    have := List.zipIdx_map_fst 0 names
    rw [show (fun p : Str × Nat => dS p.1) = dS ∘ Prod.fst from rfl, ← List.map_map]
    exact congrArg (List.map dS) this
  rw [e]
  exact nodup_map (fun _ _ => dS_inj) N.nd
theorem init_ok (N : NOk names) (V : VdsOk names vds) (i : Nat) (μ : Mem) (h : μ[i]? = some (some (.ins "Row" []))) : ∃ ν, f_Row___init__ [.cel i, nmD names, vdD vds] μ = .ok .non (μ.set i (some (rowD names vds)) ++ ν) := by
  have hn := N.few
  have hv := V.few hn
  have hi : i < μ.length := (List.getElem?_eq_some_iff.mp h).1
  let env : CL.Env := [some (.cel i), some (nmD names), some (vdD vds), none, none, none]
  have t1 : Nx (one i (.ins "Row" [])) (sIf (bNot (bVal (mCallG 3 0 gPos f_is_name_list (mCons (mVar 1) (mCons (mC (.int 1)) (mCons (mC (.int (24))) mNil))) mNil))) (sRaise "NoPlayers" (mVar 1)) sNx) env env :=
    nIf (pbNot_f (pVal (pCallG (pCons (pVar rfl) (pCons pC (pCons pC pNil))) pNil (nameList_ok N (by have := N.one; omega) (by omega))))) nNx
  have t2 : Nx (one i (.ins "Row" [])) (sIf (bOr (bNot (bVal (mCallG 2 0 gPos f_is_pair_list (mCons (mVar 2) (mCons (mVar 1) mNil)) mNil))) (bVal (mBin dNeA (mBin dMul (mC (.int 2)) (mCall dLen (mCons (mVar 2) mNil))) (mBin dMul (mCall dLen (mCons (mVar 1) mNil)) (mBin dSub (mCall dLen (mCons (mVar 1) mNil)) (mC (.int 1))))))) (sRaise "NoVerdicts" (mVar 2)) sNx) env env := by
    refine nIf (pbOr_ff (pbNot_f (pVal (pCallG (pCons (pVar rfl) (pCons (pVar rfl) pNil)) pNil (pairList_ok N V.toPairsOk (by omega))))) (pVal (pBin (pBin (z := .int (2 * (vds.length : Nat))) pC (pCall (pCons (pVar rfl) pNil) (len_ls ls_lst)) ?_) (pBin (z := .int ((names.length : Nat) * ((names.length : Nat) - 1))) (pCall (pCons (pVar rfl) pNil) (len_ls ls_lst)) (pBin (pCall (pCons (pVar rfl) pNil) (len_ls ls_lst)) pC sub_i) ?_) (ne_f ?_)))) nNx
    · rw [List.length_map]
      exact mul_ok (by omega) (by omega)
    · rw [List.length_map]
      exact mul_ok (by omega) (by omega)
    · have := V.len
      have h1 := N.one
      have e : ((names.length * (names.length - 1) : Nat) : Int) = (names.length : Int) * ((names.length : Int) - 1) := by
        rw [Int.natCast_mul, Int.natCast_sub h1]
        rfl
      omega
  obtain ⟨ν1, e1⟩ := t1 μ h
  obtain ⟨ν2, e2⟩ := t2 (μ ++ ν1) ((one i (.ins "Row" [])).ext ν1 h)
  have h2 : (μ ++ ν1 ++ ν2)[i]? = some (some (.ins "Row" [])) := (one i (.ins "Row" [])).ext ν2 ((one i (.ins "Row" [])).ext ν1 h)
  obtain ⟨ν3, e3⟩ := sFld_ok (cs := ["Row"]) (f := "own_places") (o := mVar 0) (v := mDictC false (kDFz false) (iEnumM (mCons (mVar 1) mNil)) (tgTup [3, 4]) bYes (mVar 4) (mVar 3) [3, 4]) (env := env) (y := .dct false (plc names))
    ((pDictC (l := names.zipIdx) (g := fun p => .tup [.int (p.2 : Nat), dS p.1]) ok0 (fun p => [some (.cel i), some (nmD names), some (vdD vds), some (.int (p.2 : Nat)), some (dS p.1), none]) (fun p => dS p.1) (fun p => .int (p.2 : Nat)) ((wEnum (pCons (pVar rfl) pNil) ls_lst).cast (by rw [enum_map])) (lim_of (by rw [List.length_zipIdx]; omega)) (fun _ _ => rfl) (fun _ _ => pVar rfl) (fun _ _ => pVar rfl) (fun _ _ => rfl)).cast (by rw [plc_new N]))
    (pVar rfl) (by decide) (by decide) _ h2
  have hi3 : i < (μ ++ ν1 ++ ν2 ++ ν3).length := by simp only [List.length_append]; omega
  have h3 : ((μ ++ ν1 ++ ν2 ++ ν3).set i (some (.ins "Row" (putD "own_places" (.dct false (plc names)) []))))[i]? = some (some (.ins "Row" [("own_places", .dct false (plc names))])) := by
    rw [List.getElem?_set_self hi3]
    rfl
  obtain ⟨ν4, e4⟩ := sFld_ok (cs := ["Row"]) (f := "own_verdicts") (o := mVar 0) (v := mDictC true (kDFz true) (iAny (mVar 2)) (tgName 5) bYes (mVar 5) (mC (.bl true)) [5]) (env := env) (y := .dct true (vdt vds))
    ((pDictC (l := vds) (g := dP) ok0 (fun p => [some (.cel i), some (nmD names), some (vdD vds), none, none, some (dP p)]) dP (fun _ => .bl true) (wAny (pVar rfl) ls_lst) (lim_of (by omega)) (fun _ _ => rfl) (fun _ _ => pVar rfl) (fun _ _ => pC) (fun _ _ => rfl)).cast (by rw [kdsOf_new _ (nodup_map (fun _ _ => dP_inj) V.toPairsOk.ndP)]; rfl))
    (fds := [("own_places", .dct false (plc names))]) (i := i) (c := "Row") (pVar rfl) (by decide) (show 1 < 1000 by decide) _ h3
  refine ⟨ν1 ++ ν2 ++ ν3 ++ ν4, ?_⟩
  have body : b_Row___init__ env μ = .nx env ((((μ ++ ν1 ++ ν2 ++ ν3).set i (some (.ins "Row" (putD "own_places" (.dct false (plc names)) [])))) ++ ν4).set i (some (rowD names vds))) := by
    unfold b_Row___init__
    unfold sSeq
    rw [e1]
    dsimp only
    rw [e2]
    dsimp only
    rw [e3]
    dsimp only
    rw [e4]
    rfl
  have e : ((((μ ++ ν1 ++ ν2 ++ ν3).set i (some (.ins "Row" (putD "own_places" (.dct false (plc names)) [])))) ++ ν4).set i (some (rowD names vds))) = μ.set i (some (rowD names vds)) ++ (ν1 ++ ν2 ++ ν3 ++ ν4) := by
    rw [set_app (by rw [List.length_set]; exact hi3), List.set_set, ← set_app hi3]
    simp only [List.append_assoc]
    rw [set_app hi]
  show (match b_Row___init__ env μ with
    | .nx _ m => Rs.ok D.non m
    | .rt d m => .ok d m
    | .ex c x _ m => .ex c x m
    | _ => .no) = _
  rw [body, e]
/-- Row(..), still -/
theorem row_at {n m : Nat} {gD : List D → List D → List D} {ml mk : ML} {env : CL.Env} {ds es : List D} {μ μ0 μ1 : Mem} (N : NOk names) (V : VdsOk names vds) (e1 : ml env μ = .ok ds μ0) (e2 : mk env μ0 = .ok es μ1) (hg : ∀ x, gD (x :: ds) es = [x, nmD names, vdD vds]) (hl : ds.length = n := by rfl) (hl2 : es.length = m := by rfl) :
    ∃ ν, mFrz (mNewG "Row" n m gD f_Row___init__ ml mk) env μ = .ok (rowD names vds) (μ1 ++ ν) := by
  have hi : μ1.length < (μ1 ++ [some (D.ins "Row" [])]).length := by simp
  obtain ⟨ν3, e3⟩ := init_ok N V μ1.length (μ1 ++ [some (.ins "Row" [])]) (by rw [List.getElem?_append_right (Nat.le_refl _), Nat.sub_self]; rfl)
  have em : (μ1 ++ [some (D.ins "Row" [])]).set μ1.length (some (rowD names vds)) = μ1 ++ [some (rowD names vds)] := by
    rw [List.set_append_right _ _ (Nat.le_refl _), Nat.sub_self]
    rfl
  rw [em] at e3
  have a : mNewG "Row" n m gD f_Row___init__ ml mk env μ = .ok (.cel μ1.length) (μ1 ++ [some (rowD names vds)] ++ ν3) := by
    unfold mNewG mArgs
    rw [e1]
    show ((mk env μ0).bind fun es => _) = _
    rw [e2]
    show gNew "Row" (fun x => withLen (n + 1) m gD f_Row___init__ (x :: ds) es) μ1 = _
    unfold gNew
    have w : withLen (n + 1) m gD f_Row___init__ (.cel μ1.length :: ds) es (μ1 ++ [some (.ins "Row" [])]) = .ok .non (μ1 ++ [some (rowD names vds)] ++ ν3) := by
      unfold withLen
      rw [if_pos ⟨by rw [List.length_cons, hl], hl2⟩, hg]
      exact e3
    dsimp only
    rw [w]
  refine ⟨[none] ++ ν3, ?_⟩
  unfold mFrz
  rw [a]
  show dFrz (.cel μ1.length) (μ1 ++ [some (rowD names vds)] ++ ν3) = _
  have g1 : (μ1 ++ [some (rowD names vds)] ++ ν3)[μ1.length]? = some (some (rowD names vds)) := by
    rw [List.append_assoc, List.getElem?_append_right (Nat.le_refl _), Nat.sub_self]
    rfl
  have g2 : (μ1 ++ [some (rowD names vds)] ++ ν3).set μ1.length none = μ1 ++ [none] ++ ν3 := by
    rw [List.append_assoc, List.set_append_right _ _ (Nat.le_refl _), Nat.sub_self]
    simp
  unfold dFrz
  have f : frz 4 (.cel μ1.length) (μ1 ++ [some (rowD names vds)] ++ ν3) = some (rowD names vds, μ1 ++ [none] ++ ν3) := by
    unfold frz
    dsimp only
    rw [g1]
    show (match frzL (frz 3) [.dct false (plc names), .dct true (vdt vds)] ((μ1 ++ [some (rowD names vds)] ++ ν3).set μ1.length none) with
      | some (es, m) => some (D.ins "Row" ((["own_places", "own_verdicts"] : List Str).zip es), m)
      | none => none) = _
    rw [g2]
    rfl
  rw [f]
  dsimp only
  rw [List.append_assoc]
theorem row_new {n m : Nat} {gD : List D → List D → List D} {ml mk : ML} {env : CL.Env} {ds es : List D} (N : NOk names) (V : VdsOk names vds) (h1 : Pu S (ml env) ds) (h2 : Pu S (mk env) es) (hg : ∀ x, gD (x :: ds) es = [x, nmD names, vdD vds]) (hl : ds.length = n := by rfl) (hl2 : es.length = m := by rfl) :
    Pu S (mFrz (mNewG "Row" n m gD f_Row___init__ ml mk) env) (rowD names vds) := fun μ hp => by
  obtain ⟨ν, e1⟩ := h1 μ hp
  obtain ⟨ν2, e2⟩ := h2 _ (S.ext ν hp)
  obtain ⟨ν3, e3⟩ := row_at N V e1 e2 hg hl hl2
  exact ⟨ν ++ ν2 ++ ν3, by rw [e3]; simp only [List.append_assoc]⟩
theorem fld_places {x : Str} (hx : x = "own_places") : Pu S (dFld ["Row"] x (rowD names vds)) (.dct false (plc names)) := by
  subst hx
  exact .rfl_ fun _ => rfl
theorem fld_verdicts {x : Str} (hx : x = "own_verdicts") : Pu S (dFld ["Row"] x (rowD names vds)) (.dct true (vdt vds)) := by
  subst hx
  exact .rfl_ fun _ => rfl
theorem plc_keys : (plc names).map (·.1) = names.map dS := by
  unfold plc
  rw [List.map_map]
  have := List.zipIdx_map_fst 0 names
  rw [show ((fun x : D × D => x.1) ∘ fun p : Str × Nat => (dS p.1, D.int (p.2 : Nat))) = dS ∘ Prod.fst from rfl, ← List.map_map]
  exact congrArg (List.map dS) this
theorem players_ok : Pu S (f_Row_players [rowD names vds]) (nmD names) :=
  pFn (rRet (pCall (pCons (pUn (pVar rfl) (fld_places rfl)) pNil) (.rfl_ fun μ => by
    show Rs.ok (D.lst ((plc names).map (·.1))) μ = _
    rw [plc_keys])))
theorem rowLen_ok (N : NOk names) : Pu S (f_Row___len__ [rowD names vds]) (.int (names.length : Nat)) :=
  pFn (rRet (pCall (pCons (pUn (pVar rfl) (fld_places rfl)) pNil) (.rfl_ fun μ => by
    show Rs.ok (D.int ((plc names).length : Nat)) μ = _
    rw [show (plc names).length = names.length by unfold plc; rw [List.length_map, List.length_zipIdx]])))
/-- a player's place -/
def pl (names : List Str) (s : Str) : Nat := names.idxOf s
theorem zip_pl (nd : names.Nodup) {p : Str × Nat} (h : p ∈ names.zipIdx) : p.2 = pl names p.1 := by
  have := List.mem_zipIdx h
  unfold pl
  rw [this.2.2]
  simp only [Nat.sub_zero]
  exact (List.Nodup.idxOf_getElem nd _ (by have := this.2.1; omega)).symm
theorem plc_eq (N : NOk names) : plc names = names.map fun s => (dS s, .int (pl names s : Nat)) := by
  unfold plc
  have e : (names.zipIdx.map fun p => (dS p.1, D.int (p.2 : Nat))) = names.zipIdx.map fun p => (dS p.1, D.int (pl names p.1 : Nat)) := List.map_congr_left fun p hp => by rw [zip_pl N.nd hp]
  rw [e]
  have := List.zipIdx_map_fst 0 names
  rw [show (fun p : Str × Nat => (dS p.1, D.int (pl names p.1 : Nat))) = (fun s => (dS s, D.int (pl names s : Nat))) ∘ Prod.fst from rfl, ← List.map_map]
  exact congrArg (List.map fun s => (dS s, D.int (pl names s : Nat))) this
theorem has_ok (N : NOk names) {s : Str} (h : s ∈ names) : Pu S (f_Row_has [rowD names vds, dS s]) (.bl true) :=
  pFn (rRet (pAnd_tt (pUn (pVar rfl) isi_str) (pBin (pVar rfl) (pUn (pVar rfl) (fld_places rfl)) (.rfl_ fun μ => by
    show Rs.ok (D.bl (dget (plc names) (dS s)).isSome) μ = _
    rw [plc_eq N, dget_isSome (fk := dS) (fun _ _ => dS_inj), decide_eq_true h]))))
theorem place_ok (N : NOk names) {s : Str} (h : s ∈ names) : Pu S (f_Row_place [rowD names vds, dS s]) (.int (pl names s : Nat)) :=
  pFn (rSeq (nIf (pbNot_f (pVal (pMth (pVar rfl) (fun μ _ => ins_row μ) (lk_row (by decide) (by decide)) (pCons (pVar rfl) pNil) pNil (has_ok N h)))) nNx) (rRet (pBin (pUn (pVar rfl) (fld_places rfl)) (pVar rfl) (.rfl_ fun μ => by
    show (match dget (plc names) (dS s) with
      | some d => Rs.ok d μ
      | none => .no) = _
    rw [plc_eq N, dget_map (fk := dS) (fun _ _ => dS_inj) h]))))
theorem beats_ok (N : NOk names) {a b : Str} (ha : a ∈ names) (hb : b ∈ names) : Pu S (f_Row_beats [rowD names vds, dS a, dS b]) (.bl (decide ((a, b) ∈ vds))) :=
  pFn (rSeq (nExpr (pMth (pVar rfl) (fun μ _ => ins_row μ) (lk_row (by decide) (by decide)) (pCons (pVar rfl) pNil) pNil (place_ok N ha))) (rSeq (nExpr (pMth (pVar rfl) (fun μ _ => ins_row μ) (lk_row (by decide) (by decide)) (pCons (pVar rfl) pNil) pNil (place_ok N hb)))
    (rRet (pBin (pTup (pCons (pVar rfl) (pCons (pVar rfl) pNil))) (pUn (pVar rfl) (fld_verdicts rfl)) (.rfl_ fun μ => by
      show Rs.ok (D.bl (dget (vdt vds) (dP (a, b))).isSome) μ = _
      unfold vdt
      rw [dget_isSome (fk := dP) (fun _ _ => dP_inj)]
      exact congrArg (fun t => Rs.ok (D.bl t) μ) (dec_eq _ _))))))
theorem beaten_ok (N : NOk names) {a : Str} (ha : a ∈ names) : Pu S (f_Row_beaten [rowD names vds, dS a]) (nmD (names.filter fun b => decide ((a, b) ∈ vds))) := by
  have hn := N.few
  exact pFn (rSeq (nExpr (pMth (pVar rfl) (fun μ _ => ins_row μ) (lk_row (by decide) (by decide)) (pCons (pVar rfl) pNil) pNil (place_ok N ha))) (rRet (pComp ok0 (fun b => [some (rowD names vds), some (dS a), some (dS b)]) (fun b => decide ((a, b) ∈ vds)) dS (wAny (pMth (pVar rfl) (fun μ _ => ins_row μ) (lk_row (by decide) (by decide)) pNil pNil players_ok) ls_lst) (lim_of (by omega)) (fun _ _ => rfl)
    (fun b hb => pVal (pMth (pVar rfl) (fun μ _ => ins_row μ) (lk_row (by decide) (by decide)) (pCons (pVar rfl) (pCons (pVar rfl) pNil)) pNil (beats_ok N ha hb))) fun _ _ _ => pVar rfl)))
/-- every two players, by place -/
def tw (names : List Str) : List (Str × Str) := names.zipIdx.flatMap fun p => (names.drop (p.2 + 1)).map fun o => (p.1, o)
def ori (vds : List (Str × Str)) (p : Str × Str) : Str × Str := if p ∈ vds then p else (p.2, p.1)
def verL (names : List Str) (vds : List (Str × Str)) : List (Str × Str) := (tw names).map (ori vds)
theorem tw_len (names : List Str) : (tw names).length ≤ names.length * names.length := by
  unfold tw
  rw [List.length_flatMap]
  have : ∀ (l : List (Str × Nat)), (l.map fun p => ((names.drop (p.2 + 1)).map fun o => (p.1, o)).length).sum ≤ l.length * names.length := fun l => by
    induction l with
    | nil => simp
    | cons p l ih =>
      rw [List.map_cons, List.sum_cons, List.length_cons, Nat.add_mul, Nat.one_mul, List.length_map, List.length_drop]
      omega
  have h := this names.zipIdx
  rwa [List.length_zipIdx] at h
theorem allPairs_ok (N : NOk names) : Pu S (f_all_pairs [nmD names]) (.lst ((tw names).map dP)) := by
  have hn := N.few
  have hl := tw_len names
  have hl2 : names.length * names.length ≤ 24 * 24 := Nat.mul_le_mul hn hn
  refine pFn (rRet ((pComp2 ok0 ok0 (l := names.zipIdx) (g := fun p => .tup [.int (p.2 : Nat), dS p.1]) (fun p => [some (nmD names), some (.int (p.2 : Nat)), some (dS p.1), none]) (fun p => names.drop (p.2 + 1)) dS (fun p o => [some (nmD names), some (.int (p.2 : Nat)), some (dS p.1), some (dS o)]) (fun p o => dP (p.1, o))
    ((wEnum (pCons (pVar rfl) pNil) ls_lst).cast (by rw [enum_map])) (fun _ _ => rfl) (fun p _ => (wSeq (pFrom (k := p.2 + 1) (pVar rfl) ls_lst ((pBin (pVar rfl) pC add_i).cast rfl)) ls_lst).cast (by rw [List.map_drop])) (fun _ _ _ _ => rfl) (fun p _ o _ => pTup (pCons (pVar rfl) (pCons (pVar rfl) pNil))) ?_).cast ?_))
  · have e : (names.zipIdx.flatMap fun p => (names.drop (p.2 + 1)).map fun o => dP (p.1, o)).length = (tw names).length := by
      unfold tw
      rw [List.length_flatMap, List.length_flatMap]
      congr 1
      exact List.map_congr_left fun p _ => by rw [List.length_map, List.length_map]
    rw [e]
    exact lim_of (by omega)
  · unfold tw
    rw [List.map_flatMap]
    congr 1
    refine congrArg (fun f => names.zipIdx.flatMap f) (funext fun p => ?_)
    rw [List.map_map]
    rfl
theorem verdicts_ok (N : NOk names) : Pu S (f_Row_verdicts [rowD names vds]) (vdD (verL names vds)) := by
  have hn := N.few
  have hl := tw_len names
  have hl2 : names.length * names.length ≤ 24 * 24 := Nat.mul_le_mul hn hn
  refine pFn (rSeq (nAsg (pCallG (pCons (pMth (pVar rfl) (fun μ _ => ins_row μ) (lk_row (by decide) (by decide)) pNil pNil players_ok) pNil) pNil (allPairs_ok N)) rfl)
    (rRet ((pCompY ok0 (fun p => [some (rowD names vds), some (.lst ((tw names).map dP)), some (dP p)]) (fun p => dP (ori vds p)) (wAny (pVar rfl) ls_lst) (lim_of (by omega)) (fun _ _ => rfl) (fun p _ => (pIf (t := decide (p ∈ vds)) (pVal (pBin (pVar rfl) (pUn (pVar rfl) (fld_verdicts rfl)) (.rfl_ fun μ => ?_))) (fun _ => pVar rfl) (fun _ => pTup (pCons (pBin (pVar rfl) pC idx1) (pCons (pBin (pVar rfl) pC idx0) pNil)))).cast ?_)).cast ?_)))
  · show Rs.ok (D.bl (dget (vdt vds) (dP p)).isSome) μ = _
    unfold vdt
    rw [dget_isSome (fk := dP) (fun _ _ => dP_inj)]
    exact congrArg (fun t => Rs.ok (D.bl t) μ) (dec_eq _ _)
  · unfold ori
    by_cases h : p ∈ vds
    · rw [decide_eq_true h, if_pos rfl, if_pos h]
    · rw [decide_eq_false h, if_neg (by decide), if_neg h]
  · unfold verL vdD
    rw [List.map_map]
    rfl
theorem tw_mem {p : Str × Str} (nd : names.Nodup) (h : p ∈ tw names) : p.1 ∈ names ∧ p.2 ∈ names ∧ p.1 ≠ p.2 := by
  unfold tw at h
  obtain ⟨q, hq, h2⟩ := List.mem_flatMap.mp h
  obtain ⟨o, ho, rfl⟩ := List.mem_map.mp h2
  have hm := List.mem_zipIdx hq
  refine ⟨zip_mem hq, List.mem_of_mem_drop ho, fun e => ?_⟩
  have e : q.1 = o := e
  have hk : q.2 < names.length := by have := hm.2.1; omega
  have eq : q.1 = names[q.2] := by
    have := hm.2.2
    simpa using this
  have : names[q.2] ∈ names.drop (q.2 + 1) := by rw [← eq, e]; exact ho
  obtain ⟨k, hk2, ek⟩ := List.getElem_of_mem this
  rw [List.getElem_drop] at ek
  rw [List.length_drop] at hk2
  have := (List.getElem_inj nd).mp ek
  omega
theorem cmp_nm (N : NOk names) : Cmp (nmD names) := (cm_nm N.ok).cmp
theorem cmp_vd (N : NOk names) {l : List (Str × Str)} (h : ∀ p ∈ l, p.1 ∈ names ∧ p.2 ∈ names) : Cmp (vdD l) := (cm_vd fun p hp => ⟨N.ok _ (h p hp).1, N.ok _ (h p hp).2⟩).cmp
theorem verL_mem (N : NOk names) {p : Str × Str} (h : p ∈ verL names vds) : p.1 ∈ names ∧ p.2 ∈ names ∧ p.1 ≠ p.2 := by
  unfold verL at h
  obtain ⟨q, hq, rfl⟩ := List.mem_map.mp h
  have := tw_mem N.nd hq
  unfold ori
  split
  · exact this
  · exact ⟨this.2.1, this.1, fun e => this.2.2 e.symm⟩
theorem isi_row {c : Str} (hc : c = "Row") (hk : (krs.any fun x => decide (x.c = "Row")) = true) : Pu S (dIsiK krs c (rowD names vds)) (.bl true) := .rfl_ fun μ => by
  subst hc
  unfold dIsiK
  rw [ins_row]
  dsimp only
  rw [if_pos hk, decide_eq_true rfl]
theorem rowEq_refl (N : NOk names) : Pu S (f_Row___eq__ [rowD names vds, rowD names vds]) (.bl true) :=
  pFn (rSeq (nIf (pbNot_f (pVal (pUn (pVar rfl) (isi_row rfl (by decide +kernel))))) nNx) (rRet (pAnd_tt
    (pBin (pMth (pVar rfl) (fun μ _ => ins_row μ) (lk_row (by decide) (by decide)) pNil pNil players_ok) (pMth (pVar rfl) (fun μ _ => ins_row μ) (lk_row (by decide) (by decide)) pNil pNil players_ok) (eq_refl (cmp_nm N)))
    (pBin (pMth (pVar rfl) (fun μ _ => ins_row μ) (lk_row (by decide) (by decide)) pNil pNil (verdicts_ok N)) (pMth (pVar rfl) (fun μ _ => ins_row μ) (lk_row (by decide) (by decide)) pNil pNil (verdicts_ok N)) (eq_refl (cmp_vd N fun p hp => ⟨(verL_mem N hp).1, (verL_mem N hp).2.1⟩))))))
theorem un_swap {p : Str × Str} (h : ltS p.1 p.2 = !ltS p.2 p.1) : un (p.2, p.1) = un p := by
  have h2 : ltS p.2 p.1 = !ltS p.1 p.2 := by rw [h, Bool.not_not]
  rcases min_max h with ⟨a, b, c⟩ | ⟨a, b, c⟩
  · rcases min_max h2 with ⟨a', b', c'⟩ | ⟨a', b', c'⟩
    · rw [c, c'] at h; exact absurd h (by decide)
    · show (minS p.2 p.1, maxS p.2 p.1) = (minS p.1 p.2, maxS p.1 p.2)
      rw [a, b, a', b']
  · rcases min_max h2 with ⟨a', b', c'⟩ | ⟨a', b', c'⟩
    · show (minS p.2 p.1, maxS p.2 p.1) = (minS p.1 p.2, maxS p.1 p.2)
      rw [a, b, a', b']
    · rw [c, c'] at h; exact absurd h (by decide)
theorem un_inj {p q : Str × Str} (hp : ltS p.1 p.2 = !ltS p.2 p.1) (hq : ltS q.1 q.2 = !ltS q.2 q.1) (h : un p = un q) : p = q ∨ p = (q.2, q.1) := by
  have e1 : minS p.1 p.2 = minS q.1 q.2 := congrArg Prod.fst h
  have e2 : maxS p.1 p.2 = maxS q.1 q.2 := congrArg Prod.snd h
  rcases min_max hp with ⟨a, b, _⟩ | ⟨a, b, _⟩ <;> rcases min_max hq with ⟨a', b', _⟩ | ⟨a', b', _⟩ <;> rw [a, a'] at e1 <;> rw [b, b'] at e2
  · exact .inl (Prod.ext e1 e2)
  · exact .inr (Prod.ext e1 e2)
  · exact .inr (Prod.ext e2 e1)
  · exact .inl (Prod.ext e2 e1)
/-- every two players once -/
theorem tw_pairs (N : NOk names) : ((tw names).map un).Nodup := by
  have key : ∀ (l pre : List Str), names = pre ++ l → ((((l.zipIdx pre.length).flatMap fun p => (names.drop (p.2 + 1)).map fun o => (p.1, o))).map un).Nodup ∧ ∀ q ∈ ((l.zipIdx pre.length).flatMap fun p => (names.drop (p.2 + 1)).map fun o => (p.1, o)), q.1 ∈ l ∧ q.2 ∈ l ∧ q.1 ≠ q.2 := by
    intro l
    induction l with
    | nil => exact fun _ _ => ⟨.nil, fun q hq => nomatch hq⟩
    | cons s l ih =>
      intro pre e
      have nd := N.nd
      rw [e] at nd
      have nsl : s ∉ l ∧ l.Nodup := List.nodup_cons.mp (List.nodup_append.mp nd).2.1
      obtain ⟨i1, i2⟩ := ih (pre ++ [s]) (by rw [e, List.append_assoc]; rfl)
      have el : (pre ++ [s]).length = pre.length + 1 := by simp
      rw [el] at i1 i2
      have ed : names.drop (pre.length + 1) = l := by
        rw [e, show pre ++ s :: l = (pre ++ [s]) ++ l by simp, ← el, List.drop_left]
      rw [List.zipIdx_cons, List.flatMap_cons]
      dsimp only
      rw [ed]
      have lin : ∀ x ∈ l, x ∈ names := fun x hx => by rw [e]; simp [hx]
      have sin : s ∈ names := by rw [e]; simp
      have T : ∀ q : Str × Str, q.1 ∈ names → q.2 ∈ names → q.1 ≠ q.2 → ltS q.1 q.2 = !ltS q.2 q.1 := fun q h1 h2 h3 => N.tot _ h1 _ h2 h3
      refine ⟨?_, fun q hq => ?_⟩
      · rw [List.map_append]
        refine List.nodup_append.mpr ⟨?_, i1, fun a ha b hb eab => ?_⟩
        · rw [List.map_map]
          have : ∀ (m : List Str), (∀ x ∈ m, x ∈ l) → m.Nodup → (m.map (un ∘ fun o => (s, o))).Nodup := fun m => by
            induction m with
            | nil => exact fun _ _ => .nil
            | cons x m im =>
              intro hm hn
              obtain ⟨n1, n2⟩ := List.nodup_cons.mp hn
              rw [List.map_cons]
              refine List.nodup_cons.mpr ⟨fun z => ?_, im (fun y hy => hm y (.tail _ hy)) n2⟩
              obtain ⟨y, hy, ey⟩ := List.mem_map.mp z
              have hx := hm x List.mem_cons_self
              have hyl := hm y (.tail _ hy)
              rcases un_inj (T (s, y) sin (lin y hyl) fun z => nsl.1 (by rw [show s = y from z]; exact hyl)) (T (s, x) sin (lin x hx) fun z => nsl.1 (by rw [show s = x from z]; exact hx)) ey with z | z
              · have : y = x := congrArg Prod.snd z
                exact n1 (by rw [← this]; exact hy)
              · have : s = x := congrArg Prod.fst z
                exact nsl.1 (by rw [this]; exact hx)
          exact this l (fun _ h => h) nsl.2
        · obtain ⟨q, hq, rfl⟩ := List.mem_map.mp ha
          obtain ⟨r, hr, rfl⟩ := List.mem_map.mp hb
          obtain ⟨o, ho, rfl⟩ := List.mem_map.mp hq
          obtain ⟨r1, r2, r3⟩ := i2 r hr
          rcases un_inj (T (s, o) sin (lin o ho) fun z => nsl.1 (by rw [show s = o from z]; exact ho)) (T r (lin _ r1) (lin _ r2) r3) eab with z | z
          · exact nsl.1 (by rw [show s = r.1 from congrArg Prod.fst z]; exact r1)
          · exact nsl.1 (by rw [show s = r.2 from congrArg Prod.fst z]; exact r2)
      · rcases List.mem_append.mp hq with hq | hq
        · obtain ⟨o, ho, rfl⟩ := List.mem_map.mp hq
          exact ⟨List.mem_cons_self, .tail _ ho, fun z => nsl.1 (by rw [show s = o from z]; exact ho)⟩
        · obtain ⟨r1, r2, r3⟩ := i2 q hq
          exact ⟨.tail _ r1, .tail _ r2, r3⟩
  exact (key names [] rfl).1
theorem tw_count (names : List Str) : 2 * (tw names).length = names.length * (names.length - 1) := by
  have key : ∀ (l pre : List Str), names = pre ++ l → 2 * ((l.zipIdx pre.length).flatMap fun p => (names.drop (p.2 + 1)).map fun o => (p.1, o)).length = l.length * (l.length - 1) := by
    intro l
    induction l with
    | nil => exact fun _ _ => rfl
    | cons s l ih =>
      intro pre e
      have i1 := ih (pre ++ [s]) (by rw [e, List.append_assoc]; rfl)
      have el : (pre ++ [s]).length = pre.length + 1 := by simp
      rw [el] at i1
      have ed : names.drop (pre.length + 1) = l := by
        rw [e, show pre ++ s :: l = (pre ++ [s]) ++ l by simp, ← el, List.drop_left]
      rw [List.zipIdx_cons, List.flatMap_cons]
      dsimp only
      rw [ed, List.length_append, List.length_map, Nat.mul_add, i1, List.length_cons]
      cases l with
      | nil => rfl
      | cons x l =>
        rw [List.length_cons]
        show 2 * (l.length + 1) + (l.length + 1) * (l.length + 1 - 1) = (l.length + 1 + 1) * (l.length + 1 + 1 - 1)
        rw [Nat.add_sub_cancel, Nat.add_sub_cancel, Nat.add_mul (l.length + 1) 1, Nat.one_mul, Nat.mul_add (l.length + 1), Nat.mul_one]
        omega
  exact key names [] rfl
/-- either way round, all of them -/
theorem vds_of (N : NOk names) (f : Str × Str → Str × Str) (hf : ∀ p ∈ tw names, f p = p ∨ f p = (p.2, p.1)) : VdsOk names ((tw names).map f) := by
  refine ⟨⟨fun q hq => ?_, ?_⟩, by rw [List.length_map]; exact tw_count names⟩
  · obtain ⟨p, hp, rfl⟩ := List.mem_map.mp hq
    have m := tw_mem N.nd hp
    rcases hf p hp with e | e
    · rw [e]; exact m
    · rw [e]; exact ⟨m.2.1, m.1, fun z => m.2.2 z.symm⟩
  · have e : ((tw names).map f).map un = (tw names).map un := by
      rw [List.map_map]
      refine List.map_congr_left fun p hp => ?_
      have m := tw_mem N.nd hp
      show un (f p) = un p
      rcases hf p hp with e | e
      · rw [e]
      · rw [e]; exact un_swap (N.tot _ m.1 _ m.2.1 m.2.2)
    rw [e]
    exact tw_pairs N
theorem ori_or (vds : List (Str × Str)) (p : Str × Str) : ori vds p = p ∨ ori vds p = (p.2, p.1) := by
  unfold ori
  split
  · exact .inl rfl
  · exact .inr rfl
/-- the reversed pairs -/
def turnL (names : List Str) (vds l : List (Str × Str)) : List (Str × Str) := (verL names vds).map fun p => if un p ∈ l.map un then (p.2, p.1) else p
theorem turn_vds (N : NOk names) (l : List (Str × Str)) : VdsOk names (turnL names vds l) := by
  have e : turnL names vds l = (tw names).map ((fun p => if un p ∈ l.map un then (p.2, p.1) else p) ∘ ori vds) := by
    unfold turnL verL
    rw [List.map_map]
  rw [e]
  refine vds_of N _ fun p _ => ?_
  show (if un (ori vds p) ∈ l.map un then ((ori vds p).2, (ori vds p).1) else ori vds p) = p ∨ (if un (ori vds p) ∈ l.map un then ((ori vds p).2, (ori vds p).1) else ori vds p) = (p.2, p.1)
  rcases ori_or vds p with h | h <;> rw [h] <;> split <;> simp
theorem turned_ok (N : NOk names) (P : PairsOk names l) (hl : l.length ≤ 300) : Pu S (f_Row_turned [rowD names vds, vdD l]) (rowD names (turnL names vds l)) := by
  have hn := N.few
  have hl1 := tw_len names
  have hl2 : names.length * names.length ≤ 24 * 24 := Nat.mul_le_mul hn hn
  have hv : (verL names vds).length ≤ 576 := by
    unfold verL
    rw [List.length_map]
    omega
  let nd : D := .dct true ((l.map un).map fun q => (dP q, .bl true))
  refine pFn (rSeq (nAsg (pMth (pVar rfl) (fun μ _ => ins_row μ) (lk_row (by decide) (by decide)) pNil pNil players_ok) rfl) (rSeq (nIf (pbNot_f (pVal (pCallG (pCons (pVar rfl) (pCons (pVar rfl) pNil)) pNil (pairList_ok N P hl)))) nNx) (rSeq (nAsg (d := nd) ((pDictC (l := l) (g := dP) ok0 (fun p => [some (rowD names vds), some (vdD l), some (nmD names), none, none, none, none, some (dP p)]) (fun p => dP (un p)) (fun _ => .bl true) (wAny (pVar rfl) ls_lst) (lim_of (by omega)) (fun _ _ => rfl)
    (fun p _ => pTup (pCons (pCall (pCons (pVar rfl) pNil) (mm1 minI minS)) (pCons (pCall (pCons (pVar rfl) pNil) (mm1 maxI maxS)) pNil))) (fun _ _ => pC) (fun _ _ => rfl)).cast ?_) rfl) fun μ hp => ?_)))
  · have e : l.map (fun p => dP (un p)) = (l.map un).map dP := by rw [List.map_map]; rfl
    rw [kdsOf_new (fk := fun p => dP (un p)) (fv := fun _ => D.bl true) l (by rw [e]; exact nodup_map (fun _ _ => dP_inj) P.nd)]
    show D.dct true _ = D.dct true _
    rw [List.map_map]
    rfl
  · let env4 : CL.Env := [some (rowD names vds), some (vdD l), some (nmD names), some nd, some (.cel μ.length), none, none, none]
    have hm : (μ ++ [some (D.lst [])])[μ.length]? = some (some (.lst [])) := by
      rw [List.getElem?_append_right (Nat.le_refl _), Nat.sub_self]
      rfl
    -- what is walked
    obtain ⟨ν1, e1⟩ : ∃ ν, iAny (mMthG "Row" "verdicts" 0 0 gPos f_Row_verdicts (mVar 0) mNil mNil) env4 (μ ++ [some (D.lst [])]) = .ok ⟨(verL names vds).map dP, none⟩ (μ ++ [some (D.lst [])] ++ ν) :=
      wAny (S := PU.top) (pMth (pVar rfl) (fun μ _ => ins_row μ) (lk_row (by decide) (by decide)) pNil pNil (verdicts_ok N)) ls_lst _ trivial
    have hm1 : (μ ++ [some (D.lst [])] ++ ν1)[μ.length]? = some (some (.lst [])) := by
      rw [List.append_assoc, List.getElem?_append_right (Nat.le_refl _), Nat.sub_self]
      rfl
    obtain ⟨env5, ν2, e2, hE⟩ := loop_app (xs0 := (verL names vds).map dP) (put := (tgTup [5, 6]).put) (body := sExpr (mMeth "list" gAppend (mVar 4) (mCons (mIf (bVal (mBin (dIn false) (mTup (mCons (mCall (dMMx minI minS) (mCons (mVar 5) (mCons (mVar 6) mNil))) (mCons (mCall (dMMx maxI maxS) (mCons (mVar 5) (mCons (mVar 6) mNil))) mNil))) (mVar 3))) (mTup (mCons (mVar 6) (mCons (mVar 5) mNil))) (mTup (mCons (mVar 5) (mCons (mVar 6) mNil)))) mNil)))
      (i := μ.length) (f := fun p : Str × Str => dP (if un p ∈ l.map un then (p.2, p.1) else p)) (g := dP) (fun env => ∃ a b c, env = [some (rowD names vds), some (vdD l), some (nmD names), some nd, some (.cel μ.length), a, b, c]) PU.top (fun _ _ _ => trivial) (verL names vds) (fun p hp env hE => by
        obtain ⟨a, b, c, rfl⟩ := hE
        refine ⟨[some (rowD names vds), some (vdD l), some (nmD names), some nd, some (.cel μ.length), some (dS p.1), some (dS p.2), c], rfl, fun μ' acc hm' _ hacc => ?_⟩
        obtain ⟨ν, e⟩ := app_ok (T := PU.top) (env := [some (rowD names vds), some (vdD l), some (nmD names), some nd, some (.cel μ.length), some (dS p.1), some (dS p.2), c]) (o := mVar 4) (y := dP (if un p ∈ l.map un then (p.2, p.1) else p)) (pVar rfl) (e := mIf (bVal (mBin (dIn false) (mTup (mCons (mCall (dMMx minI minS) (mCons (mVar 5) (mCons (mVar 6) mNil))) (mCons (mCall (dMMx maxI maxS) (mCons (mVar 5) (mCons (mVar 6) mNil))) mNil))) (mVar 3))) (mTup (mCons (mVar 6) (mCons (mVar 5) mNil))) (mTup (mCons (mVar 5) (mCons (mVar 6) mNil))))
          ((pIf (t := decide (un p ∈ l.map un)) (pVal (pBin (x := dP (un p)) (y := nd) (pTup (pCons (pCall (pCons (pVar rfl) (pCons (pVar rfl) pNil)) (mm2 minI minS)) (pCons (pCall (pCons (pVar rfl) (pCons (pVar rfl) pNil)) (mm2 maxI maxS)) pNil))) (pVar rfl) (.rfl_ fun μ => by
            show Rs.ok (D.bl (dget ((l.map un).map fun q => (dP q, D.bl true)) (dP (un p))).isSome) μ = _
            rw [dget_isSome (fk := dP) (fun _ _ => dP_inj)]
            exact congrArg (fun t => Rs.ok (D.bl t) μ) (dec_eq _ _)))) (fun _ => pTup (pCons (pVar rfl) (pCons (pVar rfl) pNil))) (fun _ => pTup (pCons (pVar rfl) (pCons (pVar rfl) pNil)))).cast (by
              by_cases h : un p ∈ l.map un
              · rw [decide_eq_true h, if_pos rfl, if_pos h]
              · rw [decide_eq_false h, if_neg (by decide), if_neg h])) hacc μ' hm' trivial
        exact ⟨_, ν, e, _, _, _, rfl⟩)
      env4 (μ ++ [some (D.lst [])] ++ ν1) [] ⟨_, _, _, rfl⟩ hm1 trivial (by rw [List.length_nil, Nat.zero_add]; exact lim_of (by omega))
    obtain ⟨a, b, c, rfl⟩ := hE
    rw [List.nil_append] at e2
    have em : (μ ++ [some (D.lst [])] ++ ν1).set μ.length (some (.lst ((verL names vds).map fun p => dP (if un p ∈ l.map un then (p.2, p.1) else p)))) ++ ν2 = μ ++ ([some (.lst ((turnL names vds l).map dP))] ++ ν1 ++ ν2) := by
      rw [List.append_assoc μ, set_right (Nat.le_refl _), Nat.sub_self, List.append_assoc]
      unfold turnL
      rw [List.map_map]
      rfl
    rw [em] at e2
    have hm2 : (μ ++ ([some (D.lst ((turnL names vds l).map dP))] ++ ν1 ++ ν2))[μ.length]? = some (some (.lst ((turnL names vds l).map dP))) := by
      rw [List.getElem?_append_right (Nat.le_refl _), Nat.sub_self]
      rfl
    obtain ⟨ν3, e3⟩ := row_at (n := 2) (m := 0) (gD := gPos) (ml := mCons (mVar 2) (mCons (mFrz (mVar 4)) mNil)) (mk := mNil) (env := [some (rowD names vds), some (vdD l), some (nmD names), some nd, some (.cel μ.length), a, b, c]) (ds := [nmD names, vdD (turnL names vds l)]) (es := []) (μ := μ ++ ([some (D.lst ((turnL names vds l).map dP))] ++ ν1 ++ ν2)) (μ0 := (μ ++ ([some (D.lst ((turnL names vds l).map dP))] ++ ν1 ++ ν2)).set μ.length none) N (turn_vds N l) (by
      have ef := frz_cel (g := dP) (fun _ _ => rfl) hm2
      unfold mCons mFrz
      show ((dFrz (.cel μ.length) (μ ++ ([some (D.lst ((turnL names vds l).map dP))] ++ ν1 ++ ν2))).bind fun x μ1 => (mNil _ μ1).bind fun xs μ2 => Rs.ok (x :: xs) μ2).bind _ = _
      rw [ef]
      rfl) rfl (fun _ => rfl)
    rw [set_right (Nat.le_refl _)] at e3
    refine ⟨([some (D.lst ((turnL names vds l).map dP))] ++ ν1 ++ ν2).set (μ.length - μ.length) none ++ ν3, ?_⟩
    rw [← List.append_assoc]
    rw [seq_at (asg_at (env1 := env4) (cel_new μ) rfl), seq_at ((for_at e1).trans e2)]
    exact ret_at e3
def twR : List Str → List (Str × Str)
  | [] => []
  | s :: l => l.map (fun o => (s, o)) ++ twR l
theorem tw_rec (names : List Str) : tw names = twR names := by
  have key : ∀ (l pre : List Str), names = pre ++ l → ((l.zipIdx pre.length).flatMap fun p => (names.drop (p.2 + 1)).map fun o => (p.1, o)) = twR l := by
    intro l
    induction l with
    | nil => exact fun _ _ => rfl
    | cons s l ih =>
      intro pre e
      have i1 := ih (pre ++ [s]) (by rw [e, List.append_assoc]; rfl)
      have el : (pre ++ [s]).length = pre.length + 1 := by simp
      rw [el] at i1
      have ed : names.drop (pre.length + 1) = l := by
        rw [e, show pre ++ s :: l = (pre ++ [s]) ++ l by simp, ← el, List.drop_left]
      rw [List.zipIdx_cons, List.flatMap_cons]
      dsimp only
      rw [ed, i1]
      rfl
  exact key names [] rfl
theorem twR_map (g : Str → Str) : ∀ l : List Str, twR (l.map g) = (twR l).map fun p => (g p.1, g p.2)
  | [] => rfl
  | s :: l => by
    rw [List.map_cons, twR, twR, List.map_append, twR_map g l, List.map_map, List.map_map]
    rfl
theorem twR_in : ∀ {l : List Str} {p : Str × Str}, p ∈ twR l → p.1 ∈ l ∧ p.2 ∈ l
  | s :: l, p, h => by
    rcases List.mem_append.mp h with h | h
    · obtain ⟨o, ho, rfl⟩ := List.mem_map.mp h
      exact ⟨List.mem_cons_self, .tail _ ho⟩
    · exact ⟨.tail _ (twR_in h).1, .tail _ (twR_in h).2⟩
theorem filter_sub : ∀ {m l : List Str}, m.Sublist l → l.Nodup → l.filter (fun o => decide (o ∈ m)) = m
  | _, _, .slnil, _ => rfl
  | m, _, .cons s h, nd => by
    obtain ⟨n1, n2⟩ := List.nodup_cons.mp nd
    rw [List.filter_cons_of_neg (by rw [decide_eq_true_eq]; exact fun z => n1 (h.subset z))]
    exact filter_sub h n2
  | _, _, .cons₂ (l₁ := m) s h, nd => by
    obtain ⟨n1, n2⟩ := List.nodup_cons.mp nd
    rw [List.filter_cons_of_pos (by rw [decide_eq_true_eq]; exact List.mem_cons_self)]
    refine congrArg (s :: ·) (Eq.trans ?_ (filter_sub h n2))
    refine List.filter_congr fun o ho => ?_
    have hne : o ≠ s := fun z => n1 (by rw [← z]; exact ho)
    exact decide_eq_decide.mpr ⟨fun z => (List.mem_cons.mp z).resolve_left hne, fun z => .tail _ z⟩
theorem twR_sub : ∀ {m l : List Str}, m.Sublist l → l.Nodup → (twR l).filter (fun p => decide (p.1 ∈ m) && decide (p.2 ∈ m)) = twR m
  | _, _, .slnil, _ => rfl
  | m, _, .cons (l₂ := l) s h, nd => by
    obtain ⟨n1, n2⟩ := List.nodup_cons.mp nd
    rw [twR, List.filter_append, twR_sub h n2]
    have : ((l.map fun o => (s, o)).filter fun p => decide (p.1 ∈ m) && decide (p.2 ∈ m)) = [] := by
      refine List.filter_eq_nil_iff.mpr fun p hp => ?_
      obtain ⟨o, _, rfl⟩ := List.mem_map.mp hp
      rw [decide_eq_false (fun z => n1 (h.subset z)), Bool.false_and]
      decide
    rw [this, List.nil_append]
  | _, _, .cons₂ (l₁ := m) (l₂ := l) s h, nd => by
    obtain ⟨n1, n2⟩ := List.nodup_cons.mp nd
    rw [twR, List.filter_append, twR]
    have c : ∀ o ∈ l, decide (o ∈ s :: m) = decide (o ∈ m) := fun o ho => by
      have hne : o ≠ s := fun z => n1 (by rw [← z]; exact ho)
      exact decide_eq_decide.mpr ⟨fun z => (List.mem_cons.mp z).resolve_left hne, fun z => .tail _ z⟩
    congr 1
    · rw [List.filter_map]
      have : l.filter ((fun p : Str × Str => decide (p.1 ∈ s :: m) && decide (p.2 ∈ s :: m)) ∘ fun o => (s, o)) = m := by
        refine Eq.trans (List.filter_congr fun o ho => ?_) (filter_sub h n2)
        show (decide (s ∈ s :: m) && decide (o ∈ s :: m)) = _
        rw [decide_eq_true (List.mem_cons_self), Bool.true_and, c o ho]
      rw [this]
    · refine Eq.trans (List.filter_congr fun p hp => ?_) (twR_sub h n2)
      rw [c _ (twR_in hp).1, c _ (twR_in hp).2]
theorem sortI_inc : ∀ l : List Int, l.Pairwise (· < ·) → sortI l = l
  | [], _ => rfl
  | [x], _ => rfl
  | x :: y :: l, h => by
    obtain ⟨h1, h2⟩ := List.pairwise_cons.mp h
    rw [sortI, sortI_inc (y :: l) h2]
    have := h1 y List.mem_cons_self
    unfold ins1
    rw [if_pos (by omega)]
theorem pl_at (nd : names.Nodup) {i : Nat} (h : i < names.length) : pl names names[i] = i := List.Nodup.idxOf_getElem nd i h
theorem pl_inc (nd : names.Nodup) {m : List Str} (h : m.Sublist names) : (m.map (pl names)).Pairwise (· < ·) := by
  have e : names.map (pl names) = List.range names.length := by
    refine List.ext_getElem (by simp) fun i h1 h2 => ?_
    rw [List.getElem_map, List.getElem_range]
    exact pl_at nd _
  have : (names.map (pl names)).Pairwise (· < ·) := by rw [e]; exact List.pairwise_lt_range
  exact this.sublist (h.map _)
theorem eq_nil_f (N : ∀ s ∈ names, PyData.strOk s = true) (h : names ≠ []) : Pu S (dEqA (nmD names) (.lst [])) (.bl false) := .rfl_ fun μ => by
  have c := cm_nm N
  have k2 : SeqAt.shaped (.list (names.map PyData.str)) = true := by
    unfold SeqAt.shaped
    rw [c.can, decide_eq_true (Nat.le_trans c.dep (by decide))]
    rfl
  show dEq (nmD names) (.lst []) μ = _
  unfold dEq
  rw [pd_up _ _ _ _ c.pd]
  show (if (SeqAt.shaped (.list (names.map PyData.str)) && SeqAt.shaped (.list [])) = true then Rs.ok (D.bl (PyData.eqv (.list (names.map PyData.str)) (.list []))) μ else .no) = _
  rw [k2, show SeqAt.shaped (.list []) = true from by decide +kernel]
  cases names with
  | nil => exact absurd rfl h
  | cons s l =>
    rw [List.map_cons, PyData.eqv, PyData.eqvAll]
    rfl
theorem isLot_ok (N : NOk names) {lot : List Str} (hs : lot.Sublist names) (h0 : lot ≠ []) : Pu S (f_is_lot [rowD names vds, nmD lot]) (.bl true) := by
  have hl : lot.length ≤ 24 := Nat.le_trans hs.length_le N.few
  have hm : ∀ s ∈ lot, s ∈ names := fun s h => hs.subset h
  let q : D := .lst (lot.map fun s => .int (pl names s : Nat))
  have inc := pl_inc N.nd hs
  have ndi : (lot.map fun s => D.int (pl names s : Nat)).Nodup := by
    have : ((lot.map (pl names)).map fun n : Nat => D.int (n : Nat)).Nodup := nodup_map (fun a b h => by injection h with h; omega) (inc.imp fun h => Nat.ne_of_lt h)
    rwa [List.map_map] at this
  refine pFn (rSeq (nIf (pbOr_ff (pbNot_f (pVal (pUn (pVar rfl) (isi_lst ls_lst)))) (pbOr_ff (pVal (pBin (pVar rfl) (pLst pNil) (eq_nil_f (fun s h => N.ok s (hm s h)) h0))) (pbNot_f (pVal (pCall (pCons (pCompY ok0 (fun s => [some (rowD names vds), some (nmD lot), none, some (dS s)]) (fun _ => .bl true) (wAny (pVar rfl) ls_lst) (lim_of (by omega)) (fun _ _ => rfl) fun s h => pMth (pVar rfl) (fun μ _ => ins_row μ) (lk_row (by decide) (by decide)) (pCons (pVar rfl) pNil) pNil (has_ok N (hm s h))) pNil) all_t))))) nNx)
    (rSeq (nAsg (d := q) (pCompY ok0 (fun s => [some (rowD names vds), some (nmD lot), none, some (dS s)]) (fun s => .int (pl names s : Nat)) (wAny (pVar rfl) ls_lst) (lim_of (by omega)) (fun _ _ => rfl) fun s h => pMth (pVar rfl) (fun μ _ => ins_row μ) (lk_row (by decide) (by decide)) (pCons (pVar rfl) pNil) pNil (place_ok N (hm s h))) rfl)
      (rRet (pBin (y := q) (pVar rfl) (pSetL (pVar rfl) ls_lst ?_ ?_) (eq_refl (cm_lst (n := 39) (m := 0) (h := fun s => .int (pl names s : Nat)) fun s _ => cm_int (n := 38)).cmp)))))
  · unfold setOk
    rw [Bool.or_eq_true]
    refine .inl ?_
    rw [Bool.and_eq_true, List.all_eq_true]
    refine ⟨fun x hx => ?_, decide_eq_true (by rw [List.length_map]; omega)⟩
    obtain ⟨s, _, rfl⟩ := List.mem_map.mp hx
    rfl
  · rw [ddL_new _ ndi]
    refine .rfl_ fun μ => ?_
    have ei : asInts (lot.map fun s => D.int (pl names s : Nat)) = some (lot.map fun s => ((pl names s : Nat) : Int)) := by
      have : ∀ l : List Str, asInts (l.map fun s => D.int (pl names s : Nat)) = some (l.map fun s => ((pl names s : Nat) : Int)) := fun l => by
        induction l with
        | nil => rfl
        | cons s l ih => rw [List.map_cons, asInts, ih]; rfl
      exact this lot
    unfold kSortU
    rw [ei]
    dsimp only
    rw [if_pos (by rw [List.length_map]; omega)]
    have es : sortI (lot.map fun s => ((pl names s : Nat) : Int)) = lot.map fun s => ((pl names s : Nat) : Int) := by
      refine sortI_inc _ ?_
      have := List.Pairwise.map (S := fun a b : Int => a < b) (fun n : Nat => (n : Int)) (fun a b h => by omega) inc
      rwa [List.map_map] at this
    rw [es, List.map_map]
    rfl
def partL (names lot : List Str) (vds : List (Str × Str)) : List (Str × Str) := (verL names vds).filter fun p => decide (p.1 ∈ lot) && decide (p.2 ∈ lot)
theorem lot_names (N : NOk names) {lot : List Str} (hs : lot.Sublist names) (h0 : lot ≠ []) : NOk lot :=
  ⟨N.nd.sublist hs, List.length_pos_iff.mpr h0, Nat.le_trans hs.length_le N.few, fun s h => N.ok s (hs.subset h), fun s h => N.nm s (hs.subset h), fun a ha b hb => N.tot a (hs.subset ha) b (hs.subset hb)⟩
theorem part_vds (N : NOk names) {lot : List Str} (hs : lot.Sublist names) (h0 : lot ≠ []) : VdsOk lot (partL names lot vds) := by
  have e : partL names lot vds = (tw lot).map (ori vds) := by
    unfold partL verL
    rw [List.filter_map, tw_rec, tw_rec, ← twR_sub hs N.nd]
    congr 1
    refine List.filter_congr fun p _ => ?_
    show (decide ((ori vds p).1 ∈ lot) && decide ((ori vds p).2 ∈ lot)) = _
    rcases ori_or vds p with h | h <;> rw [h]
    exact Bool.and_comm _ _
  rw [e]
  exact vds_of (lot_names N hs h0) _ fun p _ => ori_or vds p
theorem part_ok (N : NOk names) {lot : List Str} (hs : lot.Sublist names) (h0 : lot ≠ []) : Pu S (f_Row_part [rowD names vds, nmD lot]) (rowD lot (partL names lot vds)) := by
  have hn := N.few
  have hl1 := tw_len names
  have hl2 : names.length * names.length ≤ 24 * 24 := Nat.mul_le_mul hn hn
  have hv : (verL names vds).length ≤ 576 := by
    unfold verL
    rw [List.length_map]
    omega
  have hm : ∀ s ∈ lot, s ∈ names := fun s h => hs.subset h
  have L := lot_names N hs h0
  exact pFn (rSeq (nIf (pbNot_f (pVal (pCallG (pCons (pVar rfl) (pCons (pVar rfl) pNil)) pNil (isLot_ok N hs h0)))) nNx) (rRet (row_new (ds := [nmD lot, vdD (partL names lot vds)]) (es := []) L (part_vds N hs h0)
    (pCons (pCall (pCons (pVar rfl) pNil) (.rfl_ fun _ => rfl)) (pCons ((pComp ok0 (fun p => [some (rowD names vds), some (nmD lot), some (dP p)]) (fun p => decide (p.1 ∈ lot) && decide (p.2 ∈ lot)) dP (wAny (pMth (pVar rfl) (fun μ _ => ins_row μ) (lk_row (by decide) (by decide)) pNil pNil (verdicts_ok N)) ls_lst) (lim_of (by omega)) (fun _ _ => rfl)
      (fun p hp => pbAnd (pVal (pBin (pBin (pVar rfl) pC idx0) (pVar rfl) ((in_nm (N.ok _ (verL_mem N hp).1) L.ok false).cast (by rw [Bool.false_xor])))) fun _ => pVal (pBin (pBin (pVar rfl) pC idx1) (pVar rfl) ((in_nm (N.ok _ (verL_mem N hp).2.1) L.ok false).cast (by rw [Bool.false_xor])))) fun _ _ _ => pVar rfl).cast rfl) pNil)) pNil fun _ => rfl)))
def led (names nm2 : List Str) (s : Str) : Str := (nm2[pl names s]?).getD s
theorem led_map (nd : names.Nodup) {nm2 : List Str} (hl : nm2.length = names.length) : names.map (led names nm2) = nm2 := by
  refine List.ext_getElem (by rw [List.length_map, hl]) fun i h1 h2 => ?_
  rw [List.getElem_map]
  unfold led
  rw [pl_at nd (by simpa using h1), List.getElem?_eq_getElem h2]
  rfl
theorem zip_led (nd : names.Nodup) {nm2 : List Str} (hl : nm2.length = names.length) : (names.map dS).zip (nm2.map dS) = names.map fun s => (dS s, dS (led names nm2 s)) := by
  have e : nm2.map dS = names.map fun s => dS (led names nm2 s) := by
    have := congrArg (List.map dS) (led_map nd hl)
    rw [List.map_map] at this
    exact this.symm
  rw [e, List.zip_map']
theorem putPs_new : ∀ (l acc : List (D × D)), (l.map (·.1)).Nodup → (∀ p ∈ l, ∀ q ∈ acc, q.1 ≠ p.1) → putPs acc l = acc ++ l
  | [], acc, _, _ => by rw [List.append_nil]; rfl
  | p :: l, acc, nd, fr => by
    rw [List.map_cons] at nd
    obtain ⟨n1, n2⟩ := List.nodup_cons.mp nd
    have e : dput acc p.1 p.2 = acc ++ [p] := by
      unfold dput
      rw [if_neg]
      intro z
      obtain ⟨q, hq, eq⟩ := List.any_eq_true.mp z
      exact fr p List.mem_cons_self q hq (of_decide_eq_true eq)
    show putPs (dput acc p.1 p.2) l = _
    rw [e, putPs_new l _ n2, List.append_assoc]
    · rfl
    · intro b hb q hq
      rcases List.mem_append.mp hq with hq | hq
      · exact fr b (.tail _ hb) q hq
      · rw [List.mem_singleton.mp hq]
        exact fun z => n1 (by rw [z]; exact List.mem_map_of_mem hb)
def callL (names nm2 : List Str) (vds : List (Str × Str)) : List (Str × Str) := (verL names vds).map fun p => (led names nm2 p.1, led names nm2 p.2)
theorem inj_of {α β : Type} {f : α → β} : ∀ {l : List α}, (l.map f).Nodup → ∀ a ∈ l, ∀ b ∈ l, f a = f b → a = b
  | [], _, _, h, _, _, _ => absurd h (List.not_mem_nil)
  | x :: l, nd, a, ha, b, hb, e => by
    rw [List.map_cons] at nd
    obtain ⟨n1, n2⟩ := List.nodup_cons.mp nd
    rcases List.mem_cons.mp ha with ha | ha <;> rcases List.mem_cons.mp hb with hb | hb
    · rw [ha, hb]
    · exact absurd (by rw [← ha, e]; exact List.mem_map_of_mem hb) n1
    · exact absurd (by rw [← hb, ← e]; exact List.mem_map_of_mem ha) n1
    · exact inj_of n2 a ha b hb e
theorem call_vds (N : NOk names) {nm2 : List Str} (N2 : NOk nm2) (hl : nm2.length = names.length) : VdsOk nm2 (callL names nm2 vds) := by
  have inj : ∀ a ∈ names, ∀ b ∈ names, led names nm2 a = led names nm2 b → a = b := fun a ha b hb e => by
    have h : (names.map (led names nm2)).Nodup := by rw [led_map N.nd hl]; exact N2.nd
    exact inj_of h a ha b hb e
  have e1 : tw nm2 = (tw names).map fun p => (led names nm2 p.1, led names nm2 p.2) := by
    rw [tw_rec, tw_rec, ← twR_map, led_map N.nd hl]
  -- what ori does before, done behind
  let dec : Str × Str → Bool := fun q => (tw names).any fun p => decide ((led names nm2 p.1, led names nm2 p.2) = q) && decide (ori vds p = p)
  have e2 : callL names nm2 vds = (tw nm2).map fun q => if dec q = true then q else (q.2, q.1) := by
    unfold callL verL
    rw [e1, List.map_map, List.map_map]
    refine List.map_congr_left fun p hp => ?_
    have m := tw_mem N.nd hp
    show (led names nm2 (ori vds p).1, led names nm2 (ori vds p).2) = if dec (led names nm2 p.1, led names nm2 p.2) = true then (led names nm2 p.1, led names nm2 p.2) else (led names nm2 p.2, led names nm2 p.1)
    by_cases h : ori vds p = p
    · rw [if_pos (List.any_eq_true.mpr ⟨p, hp, by rw [decide_eq_true rfl, decide_eq_true h]; rfl⟩), h]
    · rw [if_neg]
      · rcases ori_or vds p with z | z
        · exact absurd z h
        · rw [z]
      · intro z
        obtain ⟨r, hr, er⟩ := List.any_eq_true.mp z
        rw [Bool.and_eq_true, decide_eq_true_eq, decide_eq_true_eq] at er
        have mr := tw_mem N.nd hr
        have q1 := inj _ mr.1 _ m.1 (congrArg Prod.fst er.1)
        have q2 := inj _ mr.2.1 _ m.2.1 (congrArg Prod.snd er.1)
        have : r = p := Prod.ext q1 q2
        rw [this] at er
        exact h er.2
  rw [e2]
  refine vds_of N2 _ fun q _ => ?_
  split
  · exact .inl rfl
  · exact .inr rfl
theorem called_ok (N : NOk names) {nm2 : List Str} (N2 : NOk nm2) (hl : nm2.length = names.length) : Pu S (f_Row_called [rowD names vds, nmD nm2]) (rowD nm2 (callL names nm2 vds)) := by
  have hn := N.few
  have hl1 := tw_len names
  have hl2 : names.length * names.length ≤ 24 * 24 := Nat.mul_le_mul hn hn
  have hv : (verL names vds).length ≤ 576 := by
    unfold verL
    rw [List.length_map]
    omega
  let dd : D := .dct false (names.map fun s => (dS s, dS (led names nm2 s)))
  have gl : ∀ s ∈ names, Pu (S := S) (dIdx dd (dS s)) (dS (led names nm2 s)) := fun s hs => .rfl_ fun μ => by
    show (match dget (names.map fun s => (dS s, dS (led names nm2 s))) (dS s) with
      | some d => Rs.ok d μ
      | none => .no) = _
    rw [dget_map (fk := dS) (fv := fun s => dS (led names nm2 s)) (fun _ _ => dS_inj) hs]
  refine pFn (rSeq (nAsg (pMth (pVar rfl) (fun μ _ => ins_row μ) (lk_row (by decide) (by decide)) pNil pNil players_ok) rfl) (rSeq (nIf (pbNot_f (pVal (pCallG (pCons (pVar rfl) (pCons (pCall (pCons (pVar rfl) pNil) (len_ls ls_lst)) (pCons (pCall (pCons (pVar rfl) pNil) (len_ls ls_lst)) pNil))) pNil (nameList_ok N2 (by rw [List.length_map]; omega) (by rw [List.length_map]; omega))))) nNx)
    (rSeq (nAsg (d := dd) (pCall (pCons (pVar rfl) (pCons (pVar rfl) pNil)) (.rfl_ fun μ => ?_)) rfl) (rRet (row_new (ds := [nmD nm2, vdD (callL names nm2 vds)]) (es := []) N2 (call_vds N N2 hl) (pCons (pCall (pCons (pVar rfl) pNil) (.rfl_ fun _ => rfl))
      (pCons ((pCompY ok0 (fun p => [some (rowD names vds), some (nmD nm2), some (nmD names), some dd, some (dS p.1), some (dS p.2)]) (fun p => dP (led names nm2 p.1, led names nm2 p.2)) (wAny (pMth (pVar rfl) (fun μ _ => ins_row μ) (lk_row (by decide) (by decide)) pNil pNil (verdicts_ok N)) ls_lst) (lim_of (by omega)) (fun _ _ => rfl) fun p hp => pTup (pCons (pBin (pVar rfl) (pVar rfl) (gl _ (verL_mem N hp).1)) (pCons (pBin (pVar rfl) (pVar rfl) (gl _ (verL_mem N hp).2.1)) pNil))).cast ?_) pNil)) pNil fun _ => rfl)))))
  · show (match toKs (names.map dS) with
      | some ks => if ks.length ≤ lim then kDFz false (putPs [] ((names.map dS).zip (nm2.map dS))) μ else .no
      | none => .no) = _
    rw [toKs_S]
    dsimp only
    rw [if_pos (by rw [List.length_map]; exact lim_of (by omega)), zip_led N.nd hl, putPs_new _ _ (by
      rw [List.map_map]
      exact nodup_map (f := dS) (fun _ _ => dS_inj) N.nd) (fun _ _ _ h => absurd h (List.not_mem_nil)), List.nil_append]
    rfl
  · unfold callL vdD
    rw [List.map_map]
    rfl
end
end Gk12

namespace Gk12
open PySem CL PU
section
variable {S : Kn} {names : List Str} {vds : List (Str × Str)} {ord : List Int} {m : Int}
/-- an order of m gaps -/
structure OrdOk (m : Int) (ord : List Int) : Prop where
  nd : ord.Nodup
  rg : ∀ g ∈ ord, 0 ≤ g ∧ g < m
  len : (ord.length : Int) = m
theorem whole_ok {i : Int} : Pu S (f_is_whole [dI i]) (.bl true) := pFn (rRet (pAnd_tt (pUn (pVar rfl) isi_ii) (pNot_t (pUn (pVar rfl) isi_ib))))
theorem sides_ok {x : D} {st gs : List Int} {g : Int} {ch : Option (Nat × D)} (hl : Ls S x (st.map dI) ch) (F : Fit st gs) (hg : g ∈ gs) (hlen : st.length ≤ 1000) : Pu S (f_sides [x, dI g]) (.tup [dI (lft st g), dI (rgt st g)]) := by
  obtain ⟨⟨a, ea⟩, _⟩ := lft_ok F hg
  obtain ⟨⟨b, eb⟩, _⟩ := rgt_ok F hg
  refine pFn (rRet (pTup (pCons (pBin (pComp hl.okc (fun s => [some x, some (dI g), some (dI s)]) (fun s => decide (s ≤ g)) dI (wAny (pVar rfl) hl) (lim_of hlen) (fun _ _ => rfl) (fun _ _ => pVal (pBin (pVar rfl) (pVar rfl) le_b)) (fun _ _ _ => pVar rfl)) (pUn pC neg_i) ?_)
    (pCons (pBin (pComp hl.okc (fun s => [some x, some (dI g), some (dI s)]) (fun s => decide (g < s)) dI (wAny (pVar rfl) hl) (lim_of hlen) (fun _ _ => rfl) (fun _ _ => pVal (pBin (pVar rfl) (pVar rfl) gt_b)) (fun _ _ _ => pVar rfl)) pC ?_) pNil))))
  · rw [ea, List.map_append]
    exact idx_last ls_lst
  · rw [eb]
    exact idx_int ls_lst (by decide) rfl
theorem orderErrors_ok (O : OrdOk m ord) (hm : m ≤ 100) : Pu S (f_order_errors [iD ord, .int m, .int m]) (.lst []) := by
  have hl := O.len
  let E : CL.Env → Prop := fun env => ∃ a b, env = [some (iD ord), some (.int m), some (.int m), a, b]
  obtain ⟨env', ⟨a, b, rfl⟩, n1⟩ := loop_nx (S := S) (xs0 := ord.zipIdx.map fun p => .tup [.int (p.2 : Nat), dI p.1]) (put := (tgTup [3, 4]).put) (g := fun p : Int × Nat => .tup [.int (p.2 : Nat), dI p.1])
    (body := sIf (bOr (bVal (mBin dEqA (mVar 3) (mVar 2))) (bOr (bNot (bVal (mCallG 1 0 gPos f_is_whole (mCons (mVar 4) mNil) mNil))) (bOr (bNot (bVal (mChain dLe dLt (mC (.int 0)) (mVar 4) (mVar 1)))) (bVal (mBin (dIn false) (mVar 4) (mSl kFz (mVar 0) oNone (oSome (mVar 3)))))))) (sRet (mLst (mCons (mVar 3) mNil))) sNx)
    E ord.zipIdx (fun p hp env hE => by
      obtain ⟨a, b, rfl⟩ := hE
      have hz := List.mem_zipIdx hp
      have hk : p.2 < ord.length := by have := hz.2.1; omega
      have ek : p.1 = ord[p.2] := by have := hz.2.2; simpa using this
      have hg := O.rg p.1 (by rw [ek]; exact List.getElem_mem _)
      refine ⟨[some (iD ord), some (.int m), some (.int m), some (.int (p.2 : Nat)), some (dI p.1)], _, rfl, nIf (pbOr_ff (pVal (pBin (pVar rfl) (pVar rfl) (eq_int.cast ?_))) (pbOr_ff (pbNot_f (pVal (pCallG (pCons (pVar rfl) pNil) pNil whole_ok))) (pbOr_ff (pbNot_f (pVal (pChain_tt pC (pVar rfl) (le_t hg.1) (pVar rfl) (lt_t hg.2)))) (pVal (pBin (pVar rfl) ((pTo (pVar rfl) ls_lst (pVar rfl)).cast ?_) ((in_int (l := ord.take p.2) false).cast ?_)))))) nNx, ⟨_, _, rfl⟩⟩
      · rw [beq_false_of_ne (by omega)]
      · show D.lst _ = D.lst ((ord.take p.2).map dI)
        rw [List.map_take]
      · rw [Bool.false_xor, decide_eq_false]
        intro z
        obtain ⟨k, h1, h2⟩ := List.getElem_of_mem z
        rw [List.getElem_take, ek] at h2
        rw [List.length_take] at h1
        have := (List.getElem_inj O.nd).mp h2
        omega)
    [some (iD ord), some (.int m), some (.int m), none, none] ⟨_, _, rfl⟩
  refine pFn (rSeq (nIf (pbNot_f (pVal (pUn (pVar rfl) (isi_lst ls_lst)))) nNx) (rSeq (nFor ((wEnum (pCons (pVar rfl) pNil) ls_lst).cast (by rw [enum_map])) n1) (rRet (pIf_f (pVal (pBin (pCall (pCons (pVar rfl) pNil) (len_ls ls_lst)) (pVar rfl) (lt_f ?_))) (pLst pNil)))))
  rw [List.length_map]
  omega
theorem cmp_nil : Cmp (.lst []) := ⟨.list [], rfl, by decide +kernel⟩
theorem checkOrder_ok (O : OrdOk m ord) (hm : m ≤ 100) : Pu S (f_check_order [iD ord, .int m, .int m]) .non :=
  pFnN (nSeq (nAsg (pCallG (pCons (pVar rfl) (pCons (pVar rfl) (pCons (pVar rfl) pNil))) pNil (orderErrors_ok O hm)) rfl) (nIf (pVal (pBin (pVar rfl) (pLst pNil) (ne_refl cmp_nil))) nNx))
def nm (names : List Str) (i : Int) : Str := (names[i.toNat]?).getD Str.empty
def fall (names : List Str) (vds : List (Str × Str)) (st : List Int) (g : Int) : Int × Int := if (nm names (lft st g), nm names (rgt st g)) ∈ vds then (lft st g, rgt st g) else (rgt st g, lft st g)
def hist (names : List Str) (vds : List (Str × Str)) : List Int → List Int → List (Int × Str × Str)
  | _, [] => []
  | st, g :: rest => (g, nm names (fall names vds st g).1, nm names (fall names vds st g).2) :: hist names vds (st.erase (fall names vds st g).2) rest
abbrev hD (h : Int × Str × Str) : D := .tup [dI h.1, dS h.2.1, dS h.2.2]
theorem fall_or (st : List Int) (g : Int) : fall names vds st g = (lft st g, rgt st g) ∨ fall names vds st g = (rgt st g, lft st g) := by
  unfold fall
  split
  · exact .inl rfl
  · exact .inr rfl
theorem fit_start (O : OrdOk m ord) {n : Nat} (hn : (n : Int) = m + 1) : Fit (rng n) ord := by
  have mem : ∀ i : Int, 0 ≤ i → i < n → i ∈ rng n := fun i h0 h1 => List.mem_map.mpr ⟨i.toNat, List.mem_range.mpr (by omega), by omega⟩
  refine ⟨fun g hg => ⟨0, mem 0 (by omega) (by have := O.rg g hg; omega), (O.rg g hg).1⟩, fun g hg => ⟨g + 1, mem _ (by have := O.rg g hg; omega) (by have := O.rg g hg; omega), by omega⟩, fun h hh g hg hlt => ⟨g, mem g (O.rg g hg).1 (by have := O.rg g hg; omega), hlt, Int.le_refl _⟩, ?_⟩
  unfold rng
  exact List.Pairwise.map (S := fun a b : Int => a < b) (fun i : Nat => (i : Int)) (fun a b h => by omega) List.pairwise_lt_range
theorem nm_at {i : Int} (h0 : 0 ≤ i) (h1 : i < names.length) : (names.map dS)[i.toNat]? = some (dS (nm names i)) := by
  have hk : i.toNat < names.length := by omega
  unfold nm
  rw [List.getElem?_map, List.getElem?_eq_getElem hk]
  rfl
theorem nm_mem {i : Int} (h0 : 0 ≤ i) (h1 : i < names.length) : nm names i ∈ names := by
  have hk : i.toNat < names.length := by omega
  unfold nm
  rw [List.getElem?_eq_getElem hk]
  exact List.getElem_mem _
/-- where places stand -/
def In (n : Nat) (st : List Int) : Prop := ∀ s ∈ st, 0 ≤ s ∧ s < (n : Int)
theorem in_rng (n : Nat) : In n (rng n) := fun s hs => by
  obtain ⟨i, hi, rfl⟩ := List.mem_map.mp hs
  have := List.mem_range.mp hi
  omega
/-- a play at a gap, the standing places known: what the two assignments leave -/
theorem fall_ok (N : NOk names) {K : Kn} {st gs : List Int} {g : Int} (F : Fit st gs) (hg : g ∈ gs) (hin : In names.length st) {o p a b : ME} {env : CL.Env} (ho : Pu K (o env) (rowD names vds)) (hp : Pu K (p env) (nmD names)) (ha : Pu K (a env) (dI (lft st g))) (hb : Pu K (b env) (dI (rgt st g))) :
    Pu K (mIf (bVal (mMthG "Row" "beats" 2 0 gPos f_Row_beats o (mCons (mBin dIdx p a) (mCons (mBin dIdx p b) mNil)) mNil)) (mTup (mCons a (mCons b mNil))) (mTup (mCons b (mCons a mNil))) env) (.tup [dI (fall names vds st g).1, dI (fall names vds st g).2]) := by
  obtain ⟨_, l1, _, _⟩ := lft_ok F hg
  obtain ⟨_, r1, _, _⟩ := rgt_ok F hg
  have il := hin _ l1
  have ir := hin _ r1
  refine (pIf (t := decide ((nm names (lft st g), nm names (rgt st g)) ∈ vds)) (pVal (pMth ho (fun μ _ => ins_row μ) (lk_row (by decide) (by decide)) (pCons (pBin hp ha (idx_int ls_lst il.1 (nm_at il.1 il.2))) (pCons (pBin hp hb (idx_int ls_lst ir.1 (nm_at ir.1 ir.2))) pNil)) pNil (beats_ok N (nm_mem il.1 il.2) (nm_mem ir.1 ir.2)))) (fun _ => pTup (pCons ha (pCons hb pNil))) (fun _ => pTup (pCons hb (pCons ha pNil)))).cast ?_
  unfold fall
  by_cases h : (nm names (lft st g), nm names (rgt st g)) ∈ vds
  · rw [decide_eq_true h, if_pos rfl, if_pos h]
  · rw [decide_eq_false h, if_neg (by decide), if_neg h]
theorem one_ext {i : Nat} {d : D} {μ : Mem} (ν : Mem) (h : μ[i]? = some (some d)) : (μ ++ ν)[i]? = some (some d) := (one i d).ext ν h
theorem set_ne {i j : Nat} {d : Option D} {e : Option D} {μ : Mem} (h : μ[i]? = some e) (hij : j ≠ i) : (μ.set j d)[i]? = some e := by
  rw [List.getElem?_set_ne hij]
  exact h
theorem set_eq {i : Nat} {d : D} {μ : Mem} (h : i < μ.length) : (μ.set i (some d))[i]? = some (some d) := List.getElem?_set_self h
theorem lt_of_some {i : Nat} {d : Option D} {μ : Mem} (h : μ[i]? = some d) : i < μ.length := (List.getElem?_eq_some_iff.mp h).1
theorem fall_in {st gs : List Int} {g : Int} (F : Fit st (g :: gs)) : (fall names vds st g).1 ∈ st ∧ (fall names vds st g).2 ∈ st ∧ ((fall names vds st g).2 = lft st g ∨ (fall names vds st g).2 = rgt st g) := by
  obtain ⟨_, l1, _, _⟩ := lft_ok F List.mem_cons_self
  obtain ⟨_, r1, _, _⟩ := rgt_ok F List.mem_cons_self
  rcases fall_or (names := names) (vds := vds) st g with e | e <;> rw [e]
  · exact ⟨l1, r1, .inr rfl⟩
  · exact ⟨r1, l1, .inl rfl⟩
def hBody : MS := (sSeq (sAsg (mCallG 2 0 gPos f_sides (mCons (mVar 3) (mCons (mVar 5) mNil)) mNil) (tgTup [6, 7])) (sSeq (sAsg (mIf (bVal (mMthG "Row" "beats" 2 0 gPos f_Row_beats (mVar 0) (mCons (mBin dIdx (mVar 2) (mVar 6)) (mCons (mBin dIdx (mVar 2) (mVar 7)) mNil)) mNil)) (mTup (mCons (mVar 6) (mCons (mVar 7) mNil))) (mTup (mCons (mVar 7) (mCons (mVar 6) mNil)))) (tgTup [8, 9])) (sSeq (sExpr (mMeth "list" gAppend (mVar 4) (mCons (mTup (mCons (mVar 5) (mCons (mBin dIdx (mVar 2) (mVar 8)) (mCons (mBin dIdx (mVar 2) (mVar 9)) mNil)))) mNil))) (sExpr (mMeth "list" gRemove (mVar 3) (mCons (mVar 9) mNil))))))
theorem hBody_ok (N : NOk names) {i0 i1 : Nat} (h01 : i0 ≠ i1) {st gs : List Int} {g : Int} {fd : List (Int × Str × Str)} (F : Fit st (g :: gs)) (hin : In names.length st) (hst : st.length ≤ 1000) (hfd : fd.length < lim) {e1 e6 e7 e8 e9 : Option D} (μ : Mem) (m0 : μ[i0]? = some (some (iD st))) (m1 : μ[i1]? = some (some (.lst (fd.map hD)))) :
    ∃ ν, hBody [some (rowD names vds), e1, some (nmD names), some (.cel i0), some (.cel i1), some (dI g), e6, e7, e8, e9] μ =
      .nx [some (rowD names vds), e1, some (nmD names), some (.cel i0), some (.cel i1), some (dI g), some (dI (lft st g)), some (dI (rgt st g)), some (dI (fall names vds st g).1), some (dI (fall names vds st g).2)]
        ((μ.set i1 (some (.lst ((fd ++ [(g, nm names (fall names vds st g).1, nm names (fall names vds st g).2)]).map hD)))).set i0 (some (iD (st.erase (fall names vds st g).2))) ++ ν) := by
  let K : Kn := both (one i0 (iD st)) (one i1 (.lst (fd.map hD)))
  have lK : Ls K (.cel i0) (st.map dI) (some (i0, iD st)) := ls_cel fun _ h => h.1
  obtain ⟨f1, f2, f3⟩ := fall_in (names := names) (vds := vds) F
  have w1 := hin _ f1
  have w2 := hin _ f2
  have n1 : Nx K (sAsg (mCallG 2 0 gPos f_sides (mCons (mVar 3) (mCons (mVar 5) mNil)) mNil) (tgTup [6, 7])) [some (rowD names vds), e1, some (nmD names), some (.cel i0), some (.cel i1), some (dI g), e6, e7, e8, e9] [some (rowD names vds), e1, some (nmD names), some (.cel i0), some (.cel i1), some (dI g), some (dI (lft st g)), some (dI (rgt st g)), e8, e9] :=
    nAsg (pCallG (pCons (pVar rfl) (pCons (pVar rfl) pNil)) pNil (sides_ok lK F List.mem_cons_self hst)) rfl
  have n2 : Nx K (sAsg (mIf (bVal (mMthG "Row" "beats" 2 0 gPos f_Row_beats (mVar 0) (mCons (mBin dIdx (mVar 2) (mVar 6)) (mCons (mBin dIdx (mVar 2) (mVar 7)) mNil)) mNil)) (mTup (mCons (mVar 6) (mCons (mVar 7) mNil))) (mTup (mCons (mVar 7) (mCons (mVar 6) mNil)))) (tgTup [8, 9]))
      [some (rowD names vds), e1, some (nmD names), some (.cel i0), some (.cel i1), some (dI g), some (dI (lft st g)), some (dI (rgt st g)), e8, e9] [some (rowD names vds), e1, some (nmD names), some (.cel i0), some (.cel i1), some (dI g), some (dI (lft st g)), some (dI (rgt st g)), some (dI (fall names vds st g).1), some (dI (fall names vds st g).2)] :=
    nAsg (fall_ok N F List.mem_cons_self hin (pVar rfl) (pVar rfl) (pVar rfl) (pVar rfl)) rfl
  obtain ⟨ν1, q1⟩ := n1 μ ⟨m0, m1⟩
  have p1 := K.ext (μ := μ) ν1 ⟨m0, m1⟩
  obtain ⟨ν2, q2⟩ := n2 _ p1
  have p2 := K.ext ν2 p1
  obtain ⟨μ2, eμ⟩ : ∃ μ2, μ ++ ν1 ++ ν2 = μ2 := ⟨_, rfl⟩
  rw [eμ] at q2 p2
  obtain ⟨ν3, q3⟩ := app_ok (T := one i0 (iD st)) (o := mVar 4) (i := i1) (l := fd.map hD) (y := hD (g, nm names (fall names vds st g).1, nm names (fall names vds st g).2))
    (env := [some (rowD names vds), e1, some (nmD names), some (.cel i0), some (.cel i1), some (dI g), some (dI (lft st g)), some (dI (rgt st g)), some (dI (fall names vds st g).1), some (dI (fall names vds st g).2)]) (e := mTup (mCons (mVar 5) (mCons (mBin dIdx (mVar 2) (mVar 8)) (mCons (mBin dIdx (mVar 2) (mVar 9)) mNil))))
    (pVar rfl) (pTup (pCons (pVar rfl) (pCons (pBin (pVar rfl) (pVar rfl) (idx_int ls_lst w1.1 (nm_at w1.1 w1.2))) (pCons (pBin (pVar rfl) (pVar rfl) (idx_int ls_lst w2.1 (nm_at w2.1 w2.2))) pNil)))) (by rw [List.length_map]; exact hfd) μ2 p2.2 p2.1
  have l1 := lt_of_some p2.2
  have m0' : (μ2.set i1 (some (.lst (fd.map hD ++ [hD (g, nm names (fall names vds st g).1, nm names (fall names vds st g).2)]))) ++ ν3)[i0]? = some (some (iD st)) := one_ext ν3 (set_ne p2.1 (Ne.symm h01))
  obtain ⟨ν4, q4⟩ := rem_ok (T := PU.top) (o := mVar 3) (i := i0) (l := st) (k := (fall names vds st g).2) (e := mVar 9)
    (env := [some (rowD names vds), e1, some (nmD names), some (.cel i0), some (.cel i1), some (dI g), some (dI (lft st g)), some (dI (rgt st g)), some (dI (fall names vds st g).1), some (dI (fall names vds st g).2)]) (pVar rfl) (pVar rfl) f2 _ m0' trivial
  have i0l : i0 < (μ2.set i1 (some (.lst (fd.map hD ++ [hD (g, nm names (fall names vds st g).1, nm names (fall names vds st g).2)])))).length := by rw [List.length_set]; exact lt_of_some p2.1
  have la := lt_of_some m0
  have lb := lt_of_some m1
  refine ⟨ν1 ++ ν2 ++ ν3 ++ ν4, ?_⟩
  unfold hBody
  rw [seq_at q1, seq_at q2, seq_at q3, q4, set_app i0l, ← eμ]
  simp only [List.append_assoc]
  rw [set_app lb, set_app (by rw [List.length_set]; exact la), List.map_append]
  simp only [List.append_assoc]
  rfl
theorem history_ok (N : NOk names) (O : OrdOk ((names.length : Int) - 1) ord) : Pu S (f_history_of [rowD names vds, iD ord]) (.lst ((hist names vds (rng names.length) ord).map hD)) := by
  have hn := N.few
  have hol := O.len
  refine pFn (rSeq (nExpr (pCallG (pCons (pVar rfl) (pCons (pBin (pLenO (pVar rfl) (fun μ _ => ins_row μ) (rowLen_ok N) (by omega)) pC sub_i) (pCons (pBin (pLenO (pVar rfl) (fun μ _ => ins_row μ) (rowLen_ok N) (by omega)) pC sub_i) pNil))) pNil (checkOrder_ok O (by omega)))) (rSeq (nAsg (pMth (pVar rfl) (fun μ _ => ins_row μ) (lk_row (by decide) (by decide)) pNil pNil players_ok) rfl) (Rt.of_gr fun μ hp => ?_)))
  have c1 : mCall (dLrg kCe) (mCons (mCall dLen (mCons (mVar 2) mNil)) mNil) [some (rowD names vds), some (iD ord), some (nmD names), none, none, none, none, none, none, none] μ = .ok (.cel μ.length) (μ ++ [some (iD (rng names.length))]) := by
    have q : ∀ f : List D → M D, mCall f (mCons (mCall dLen (mCons (mVar 2) mNil)) mNil) [some (rowD names vds), some (iD ord), some (nmD names), none, none, none, none, none, none, none] μ = f [.int ((names.map dS).length : Nat)] μ := fun _ => rfl
    rw [q, List.length_map]
    exact lrg_ok (by omega) μ
  have a1 : (μ ++ [some (iD (rng names.length))] ++ [some (D.lst [])])[μ.length]? = some (some (iD (rng names.length))) := by
    rw [List.append_assoc, List.getElem?_append_right (Nat.le_refl _), Nat.sub_self]
    rfl
  have a2 : (μ ++ [some (iD (rng names.length))] ++ [some (D.lst [])])[(μ ++ [some (iD (rng names.length))]).length]? = some (some (D.lst [])) := by
    rw [List.getElem?_append_right (Nat.le_refl _), Nat.sub_self]
    rfl
  obtain ⟨i0, e0⟩ : ∃ i0, μ.length = i0 := ⟨_, rfl⟩
  obtain ⟨i1, e1⟩ : ∃ i1, (μ ++ [some (iD (rng names.length))]).length = i1 := ⟨_, rfl⟩
  have h01 : i0 ≠ i1 := by
    rw [← e0, ← e1, List.length_append, List.length_singleton]
    omega
  have g0 : μ.length ≤ i0 := by omega
  have g1 : μ.length ≤ i1 := by rw [← e1, List.length_append]; omega
  rw [e0] at c1 a1
  rw [e1] at a2
  let I : List Int → CL.Env → Mem → Prop := fun rest env μ' => ∃ st fd a b c d e, env = [some (rowD names vds), some (iD ord), some (nmD names), some (.cel i0), some (.cel i1), a, b, c, d, e] ∧ Gr μ μ' ∧ μ'[i0]? = some (some (iD st)) ∧ μ'[i1]? = some (some (.lst (fd.map hD))) ∧ Fit st rest ∧ rest.Nodup ∧ In names.length st ∧ st.length ≤ 24 ∧ fd.length + rest.length ≤ 100 ∧ fd ++ hist names vds st rest = hist names vds (rng names.length) ord
  obtain ⟨env', μ', q5, st, fd, a, b, c, d, e, rfl, gr, m0, m1, _, _, _, _, _, tot⟩ := loop_gen (xs0 := ord.map dI) (put := (tgName 5).put) (body := hBody) (g := dI) I (fun g rest env μ' hI => by
    obtain ⟨st, fd, a, b, c, d, e, rfl, gr, m0, m1, F, nd, hin, hst, hfd, tot⟩ := hI
    obtain ⟨n1, n2⟩ := List.nodup_cons.mp nd
    rw [List.length_cons] at hfd
    obtain ⟨ν, q⟩ := hBody_ok (vds := vds) (e1 := some (iD ord)) (e6 := b) (e7 := c) (e8 := d) (e9 := e) N h01 F hin (by omega) (Nat.lt_of_lt_of_le (show fd.length < 1000 by omega) (by decide)) μ' m0 m1
    obtain ⟨_, f2, f3⟩ := fall_in (names := names) (vds := vds) F
    refine ⟨_, _, _, rfl, q, st.erase (fall names vds st g).2, fd ++ [(g, nm names (fall names vds st g).1, nm names (fall names vds st g).2)], _, _, _, _, _, rfl, ((gr.set g1).set g0).app, one_ext ν (set_eq (by rw [List.length_set]; exact lt_of_some m0)), one_ext ν (set_ne (set_eq (lt_of_some m1)) h01), F.step n1 f3, n2, fun s hs => hin s (List.mem_of_mem_erase hs), Nat.le_trans (List.erase_sublist.length_le) hst, by rw [List.length_append, List.length_singleton]; omega, ?_⟩
    rw [List.append_assoc]
    exact tot)
    ord _ _ ⟨rng names.length, [], none, none, none, none, none, rfl, (Gr.refl.app).app, a1, a2, fit_start O (by omega), O.nd, in_rng _, by unfold rng; rw [List.length_map, List.length_range]; exact hn, by rw [List.length_nil]; omega, rfl⟩
  have tot' : fd = hist names vds (rng names.length) ord := by rw [← tot]; exact (List.append_nil _).symm
  subst tot'
  have ef := frz_cel (g := hD) (fun _ _ => rfl) m1
  refine ⟨μ'.set i1 none, ?_, gr.set g1⟩
  show (sSeq (sAsg (mCall (dLrg kCe) (mCons (mCall dLen (mCons (mVar 2) mNil)) mNil)) (tgName 3)) (sSeq (sAsg (mCel mNil) (tgName 4)) (sSeq (sFor (iAny (mVar 1)) (tgName 5) hBody) (sRet (mFrz (mVar 4)))))) [some (rowD names vds), some (iD ord), some (nmD names), none, none, none, none, none, none, none] μ = _
  rw [seq_at (asg_at (env1 := [some (rowD names vds), some (iD ord), some (nmD names), some (.cel i0), none, none, none, none, none, none]) c1 rfl), seq_at (asg_at (env1 := [some (rowD names vds), some (iD ord), some (nmD names), some (.cel i0), some (.cel i1), none, none, none, none, none]) ((cel_new _).trans (by rw [e1])) rfl), seq_at ((for_at (i := ⟨ord.map dI, none⟩) rfl).trans q5)]
  exact ret_at ef
theorem hist_mem (N : NOk names) : ∀ (ord st : List Int), Fit st ord → ord.Nodup → In names.length st → ∀ h ∈ hist names vds st ord, h.2.1 ∈ names ∧ h.2.2 ∈ names
  | [], _, _, _, _, h, hh => nomatch hh
  | g :: rest, st, F, nd, hin, h, hh => by
    obtain ⟨n1, n2⟩ := List.nodup_cons.mp nd
    obtain ⟨f1, f2, f3⟩ := fall_in (names := names) (vds := vds) F
    rcases List.mem_cons.mp hh with e | e
    · rw [e]
      exact ⟨nm_mem (hin _ f1).1 (hin _ f1).2, nm_mem (hin _ f2).1 (hin _ f2).2⟩
    · exact hist_mem N rest _ (F.step n1 f3) n2 (fun s hs => hin s (List.mem_of_mem_erase hs)) h e
theorem cmp_hist (N : NOk names) {l : List (Int × Str × Str)} (h : ∀ q ∈ l, q.2.1 ∈ names ∧ q.2.2 ∈ names) : Cmp (.lst (l.map hD)) :=
  (cm_lst (n := 39) (m := 1) (h := fun q : Int × Str × Str => .tuple [.int q.1, .str q.2.1, .str q.2.2]) fun q hq => (cm_tup (n := 38) (m := 0) (l := [dI q.1, dS q.2.1, dS q.2.2]) (g := id) (h := fun d => match d with
    | .int i => .int i
    | .str s => .str s
    | _ => .none) fun d hd => by
      rcases List.mem_cons.mp hd with e | hd
      · rw [e]; exact cm_int (n := 37)
      · rcases List.mem_cons.mp hd with e | hd
        · rw [e]; exact cm_str (n := 37) (N.ok _ (h q hq).1)
        · rw [List.mem_singleton.mp hd]; exact cm_str (n := 37) (N.ok _ (h q hq).2))).cmp
/-- the lots behind the first -/
def lotsL : List Str → List (Int × Str × Str) → List (List Str)
  | _, [] => []
  | cur, h :: t => cur.filter (fun s => decide (s ≠ h.2.2)) :: lotsL (cur.filter fun s => decide (s ≠ h.2.2)) t
def lastL : List Str → List (Int × Str × Str) → List Str
  | cur, [] => cur
  | cur, h :: t => lastL (cur.filter fun s => decide (s ≠ h.2.2)) t
theorem lots_last : ∀ (t : List (Int × Str × Str)) (cur : List Str), ∃ a, cur :: lotsL cur t = a ++ [lastL cur t]
  | [], cur => ⟨[], rfl⟩
  | h :: t, cur => by
    obtain ⟨a, e⟩ := lots_last t (cur.filter fun s => decide (s ≠ h.2.2))
    refine ⟨cur :: a, ?_⟩
    rw [lotsL, e]
    rfl
theorem filter_one : ∀ {l : List Str} (s : Str), l.Nodup → l.length ≤ (l.filter fun o => decide (o ≠ s)).length + 1
  | [], _, _ => by simp
  | x :: l, s, nd => by
    obtain ⟨n1, n2⟩ := List.nodup_cons.mp nd
    by_cases h : x = s
    · have e : l.filter (fun o => decide (o ≠ s)) = l := List.filter_eq_self.mpr fun o ho => decide_eq_true fun z => n1 (by rw [h, ← z]; exact ho)
      rw [List.filter_cons_of_neg (by rw [decide_eq_true_eq]; exact fun z => z h), e, List.length_cons]
      exact Nat.le_refl _
    · rw [List.filter_cons_of_pos (by rw [decide_eq_true_eq]; exact h), List.length_cons, List.length_cons]
      have := filter_one s n2
      omega
theorem last_len : ∀ (t : List (Int × Str × Str)) (cur : List Str), cur.Nodup → cur.length ≤ (lastL cur t).length + t.length
  | [], cur, _ => Nat.le_refl _
  | h :: t, cur, nd => by
    have h1 := filter_one h.2.2 nd
    have h2 := last_len t (cur.filter fun s => decide (s ≠ h.2.2)) (nd.filter _)
    rw [lastL, List.length_cons]
    omega
theorem hist_len : ∀ (ord st : List Int), (hist names vds st ord).length = ord.length
  | [], _ => rfl
  | g :: rest, st => by rw [hist, List.length_cons, List.length_cons, hist_len rest]
def lotsAll (names : List Str) (vds : List (Str × Str)) (ord : List Int) : List (List Str) := names :: lotsL names (hist names vds (rng names.length) ord)
theorem ne_strb {i j : Str} : Pu S (dNeA (.str i) (.str j)) (.bl (decide (i ≠ j))) := ne_str.cast (by
  by_cases h : i = j
  · rw [decide_eq_true h, decide_eq_false fun z => z h]; rfl
  · rw [decide_eq_false h, decide_eq_true h]; rfl)
theorem lots_ok (N : NOk names) (O : OrdOk ((names.length : Int) - 1) ord) : Pu S (f_lots_of [rowD names vds, iD ord]) (.lst ((lotsAll names vds ord).map nmD)) := by
  have hn := N.few
  have hol := O.len
  refine pFn (Rt.of_gr fun μ hp => ?_)
  obtain ⟨ν0, e0⟩ := (pCons (ml := mNil) (pMth (o := mVar 0) (env := [some (rowD names vds), some (iD ord), none, none, none, none, none]) (S := PU.top) (f := f_Row_players) (gD := gPos) (n := 0) (l := 0) (m := "players") (ml := mNil) (mk := mNil) (pVar rfl) (fun μ _ => ins_row (names := names) (vds := vds) μ) (lk_row (by decide) (by decide)) pNil pNil players_ok) pNil) μ trivial
  obtain ⟨μ1, eμ⟩ : ∃ μ1, μ ++ ν0 = μ1 := ⟨_, rfl⟩
  rw [eμ] at e0
  have gr0 : Gr μ μ1 := ⟨ν0, eμ.symm⟩
  have c1 : mCel (mCons (mMthG "Row" "players" 0 0 gPos f_Row_players (mVar 0) mNil mNil) mNil) [some (rowD names vds), some (iD ord), none, none, none, none, none] μ = .ok (.cel μ1.length) (μ1 ++ [some (.lst [nmD names])]) := by
    unfold mCel
    rw [e0]
    rfl
  obtain ⟨i, ei⟩ : ∃ i, μ1.length = i := ⟨_, rfl⟩
  have hi : μ.length ≤ i := by rw [← ei]; exact gr0.len
  have a1 : (μ1 ++ [some (D.lst [nmD names])])[i]? = some (some (.lst ([names].map nmD))) := by
    rw [← ei, List.getElem?_append_right (Nat.le_refl _), Nat.sub_self]
    rfl
  rw [ei] at c1
  obtain ⟨ν1, e1⟩ := (wAny (S := PU.top) (env := [some (rowD names vds), some (iD ord), some (.cel i), none, none, none, none]) (pCallG (n := 2) (l := 0) (gD := gPos) (ml := mCons (mVar 0) (mCons (mVar 1) mNil)) (mk := mNil) (pCons (pVar rfl) (pCons (pVar rfl) pNil)) pNil (history_ok (vds := vds) N O)) ls_lst) (μ1 ++ [some (D.lst [nmD names])]) trivial
  let I : List (Int × Str × Str) → CL.Env → Mem → Prop := fun rest env μ' => ∃ acc cur a b c, env = [some (rowD names vds), some (iD ord), some (.cel i), a, b, c, none] ∧ Gr μ μ' ∧ μ'[i]? = some (some (.lst ((acc ++ [cur]).map nmD))) ∧ (∀ s ∈ cur, s ∈ names) ∧ cur.length ≤ 24 ∧ acc.length + rest.length ≤ 100 ∧ acc ++ [cur] ++ lotsL cur rest = lotsAll names vds ord
  obtain ⟨env', μ', q5, acc, cur, a, b, c, rfl, gr, m1, _, _, _, tot⟩ := loop_gen (xs0 := (hist names vds (rng names.length) ord).map hD) (put := (tgTup [3, 4, 5]).put) (body := sExpr (mMeth "list" gAppend (mVar 2) (mCons (mComp kFz (iSeq (mBin dIdx (mVar 2) (mUn dNeg (mC (.int 1))))) (tgName 6) (bVal (mBin dNeA (mVar 6) (mVar 5))) (mVar 6) [6]) mNil))) (g := hD) I (fun h rest env μ' hI => by
    obtain ⟨acc, cur, a, b, c, rfl, gr, m1, hcur, hl, hacc, tot⟩ := hI
    rw [List.length_cons] at hacc
    have lK : Ls (both (one i (.lst ((acc ++ [cur]).map nmD))) PU.top) (.cel i) (acc.map nmD ++ [nmD cur]) (some (i, .lst (acc.map nmD ++ [nmD cur]))) := ls_cel fun μ h => by
      have := h.1
      show μ[i]? = _
      rw [show (acc.map nmD ++ [nmD cur]) = (acc ++ [cur]).map nmD by rw [List.map_append]; rfl]
      exact this
    obtain ⟨ν, q⟩ := app_ok (T := PU.top) (env := [some (rowD names vds), some (iD ord), some (.cel i), some (dI h.1), some (dS h.2.1), some (dS h.2.2), none]) (o := mVar 2) (e := mComp kFz (iSeq (mBin dIdx (mVar 2) (mUn dNeg (mC (.int 1))))) (tgName 6) (bVal (mBin dNeA (mVar 6) (mVar 5))) (mVar 6) [6]) (y := nmD (cur.filter fun s => decide (s ≠ h.2.2))) (pVar rfl)
      (pComp ok0 (fun s => [some (rowD names vds), some (iD ord), some (.cel i), some (dI h.1), some (dS h.2.1), some (dS h.2.2), some (dS s)]) (fun s => decide (s ≠ h.2.2)) dS (wSeq (pBin (pVar rfl) (pUn pC neg_i) (idx_last lK)) ls_lst) (lim_of (by omega)) (fun _ _ => rfl) (fun _ _ => pVal (pBin (pVar rfl) (pVar rfl) ne_strb)) (fun _ _ _ => pVar rfl)) (by rw [List.length_map, List.length_append, List.length_singleton]; exact Nat.lt_of_lt_of_le (show acc.length + 1 < 1000 by omega) (by decide)) μ' m1 trivial
    refine ⟨_, _, _, rfl, q, acc ++ [cur], cur.filter (fun s => decide (s ≠ h.2.2)), _, _, _, rfl, (gr.set hi).app, ?_, fun s hs => hcur s (List.mem_filter.mp hs).1, Nat.le_trans (List.length_filter_le _ _) hl, by rw [List.length_append, List.length_singleton]; omega, ?_⟩
    · rw [List.map_append (l₁ := acc ++ [cur])]
      exact one_ext ν (set_eq (lt_of_some m1))
    · rw [← tot, lotsL]
      simp only [List.append_assoc, List.singleton_append]
      rfl)
    (hist names vds (rng names.length) ord) _ _ ⟨[], names, none, none, none, rfl, (gr0.app).app, one_ext ν1 a1, fun _ h => h, hn, by rw [hist_len, List.length_nil]; omega, rfl⟩
  have tot' : acc ++ [cur] = lotsAll names vds ord := by rw [← tot]; exact (List.append_nil _).symm
  rw [tot'] at m1
  have ef := frz_cel (g := nmD) (fun _ _ => rfl) m1
  refine ⟨μ'.set i none, ?_, gr.set hi⟩
  show (sSeq (sAsg (mCel (mCons (mMthG "Row" "players" 0 0 gPos f_Row_players (mVar 0) mNil mNil) mNil)) (tgName 2)) (sSeq (sFor (iAny (mCallG 2 0 gPos f_history_of (mCons (mVar 0) (mCons (mVar 1) mNil)) mNil)) (tgTup [3, 4, 5]) (sExpr (mMeth "list" gAppend (mVar 2) (mCons (mComp kFz (iSeq (mBin dIdx (mVar 2) (mUn dNeg (mC (.int 1))))) (tgName 6) (bVal (mBin dNeA (mVar 6) (mVar 5))) (mVar 6) [6]) mNil)))) (sRet (mFrz (mVar 2))))) [some (rowD names vds), some (iD ord), none, none, none, none, none] μ = _
  rw [seq_at (asg_at (env1 := [some (rowD names vds), some (iD ord), some (.cel i), none, none, none, none]) c1 rfl), seq_at ((for_at e1).trans q5)]
  exact ret_at ef
def lastOf (names : List Str) (vds : List (Str × Str)) (ord : List Int) : Str := (lastL names (hist names vds (rng names.length) ord)).headD Str.empty
theorem last_ok (N : NOk names) (O : OrdOk ((names.length : Int) - 1) ord) : Pu S (f_last_of [rowD names vds, iD ord]) (dS (lastOf names vds ord)) := by
  obtain ⟨a, e⟩ := lots_last (hist names vds (rng names.length) ord) names
  have hl := last_len (hist names vds (rng names.length) ord) names N.nd
  rw [hist_len] at hl
  have hol := O.len
  have h1 := N.one
  cases hc : lastL names (hist names vds (rng names.length) ord) with
  | nil => rw [hc, List.length_nil] at hl; omega
  | cons s t =>
    refine pFn (rRet (pBin (x := nmD (s :: t)) (pBin (pCallG (pCons (pVar rfl) (pCons (pVar rfl) pNil)) pNil (lots_ok N O)) (pUn pC neg_i) ?_) pC (idx_int ls_lst (by decide) ?_)))
    · rw [show lotsAll names vds ord = a ++ [s :: t] by unfold lotsAll; rw [e, hc], List.map_append]
      exact idx_last ls_lst
    · unfold lastOf
      rw [hc]
      rfl
theorem lots_in : ∀ (t : List (Int × Str × Str)) (cur : List Str), (∀ s ∈ cur, s ∈ names) → ∀ l ∈ cur :: lotsL cur t, ∀ s ∈ l, s ∈ names
  | [], cur, h, l, hl => by
    rw [List.mem_singleton.mp hl]
    exact h
  | q :: t, cur, h, l, hl => by
    rcases List.mem_cons.mp hl with e | hl
    · rw [e]; exact h
    · exact lots_in t _ (fun s hs => h s (List.mem_filter.mp hs).1) l hl
theorem cmp_lots (N : NOk names) : Cmp (.lst ((lotsAll names vds ord).map nmD)) :=
  (cm_lst (n := 39) (m := 1) (h := fun l : List Str => .list (l.map .str)) fun l hl => cm_lst (n := 38) (m := 0) fun s hs => cm_str (n := 37) (N.ok _ (lots_in _ names (fun _ h => h) l hl s hs))).cmp
end
end Gk12

namespace Gk12
open PySem CL PU
section
variable {S : Kn} {names : List Str} {vds : List (Str × Str)} {i j k i' j' k' : Nat} {st gs : List Int} {pls : List (Int × Str × Str)} {g : Int}
def stF (names : List Str) (vds : List (Str × Str)) (j k : Nat) : List (Str × D) := [("own_row", rowD names vds), ("own_standing", .cel j), ("own_plays", .cel k)]
/-- a Stand in the memory -/
structure StIn (μ : Mem) (i j k : Nat) (names : List Str) (vds : List (Str × Str)) (st : List Int) (pls : List (Int × Str × Str)) : Prop where
  ins : μ[i]? = some (some (.ins "Stand" (stF names vds j k)))
  st : μ[j]? = some (some (iD st))
  pl : μ[k]? = some (some (.lst (pls.map hD)))
theorem StIn.app {μ : Mem} (ν : Mem) (h : StIn μ i j k names vds st pls) : StIn (μ ++ ν) i j k names vds st pls := ⟨one_ext ν h.ins, one_ext ν h.st, one_ext ν h.pl⟩
def stK (i j k : Nat) (names : List Str) (vds : List (Str × Str)) (st : List Int) (pls : List (Int × Str × Str)) : Kn := ⟨fun μ => StIn μ i j k names vds st pls, fun ν h => h.app ν⟩
abbrev Has (S : Kn) (i j k : Nat) (names : List Str) (vds : List (Str × Str)) (st : List Int) (pls : List (Int × Str × Str)) : Prop := ∀ μ, S.p μ → StIn μ i j k names vds st pls
theorem Has.insOf (h : Has S i j k names vds st pls) : ∀ μ, S.p μ → CL.insOf μ (.cel i) = some (("Stand" : Str), stF names vds j k) := fun μ hp => by
  unfold CL.insOf
  dsimp only
  rw [(h μ hp).ins]
theorem lk_st {m : Str} (h1 : (m == "own_row") = false) (h2 : (m == "own_standing") = false) (h3 : (m == "own_plays") = false) : (stF names vds j k).lookup m = none := by
  unfold stF
  rw [List.lookup, h1]
  dsimp only
  rw [List.lookup, h2]
  dsimp only
  rw [List.lookup, h3]
  rfl
theorem f_row (h : Has S i j k names vds st pls) : Pu S (dFld ["Stand"] "own_row" (.cel i)) (rowD names vds) := pFld (Has.insOf h) (by decide) rfl
theorem f_standing (h : Has S i j k names vds st pls) : Pu S (dFld ["Stand"] "own_standing" (.cel i)) (.cel j) := pFld (Has.insOf h) (by decide) rfl
theorem f_plays (h : Has S i j k names vds st pls) : Pu S (dFld ["Stand"] "own_plays" (.cel i)) (.cel k) := pFld (Has.insOf h) (by decide) rfl
theorem ls_standing (h : Has S i j k names vds st pls) : Ls S (.cel j) (st.map dI) (some (j, iD st)) := ls_cel fun μ hp => (h μ hp).st
theorem ls_plays (h : Has S i j k names vds st pls) : Ls S (.cel k) (pls.map hD) (some (k, .lst (pls.map hD))) := ls_cel fun μ hp => (h μ hp).pl
/-- the gaps that are left -/
def leftG (n : Nat) (pls : List (Int × Str × Str)) : List Int := (rng (n - 1)).filter fun g => decide (g ∉ pls.map (·.1))
theorem gaps_ok (N : NOk names) (h : Has S i j k names vds st pls) (hp : pls.length ≤ 100) : Pu S (f_Stand_gaps [.cel i]) (iD (leftG names.length pls)) := by
  have hn := N.few
  have h1 := N.one
  have lP := ls_plays h
  refine pFn (rSeq (nAsg (d := iD (pls.map (·.1))) ((pCompY lP.okc (fun q => [some (.cel i), none, some (dI q.1), some (dS q.2.1), some (dS q.2.2)]) (fun q => dI q.1) (wAny (pUn (pVar rfl) (f_plays h)) lP) (lim_of (by omega)) (fun _ _ => rfl) fun _ _ => pVar rfl).cast ?_) rfl)
    (rRet (pComp (l := rng (names.length - 1)) (g := dI) ok0 (fun g => [some (.cel i), some (iD (pls.map (·.1))), some (dI g), none, none]) (fun g => decide (g ∉ pls.map (·.1))) dI ((wRng1 (n := ((names.length - 1 : Nat) : Int)) (pCons ((pBin (pLenO (pUn (pVar rfl) (f_row h)) (fun μ _ => ins_row μ) (rowLen_ok N) (by omega)) pC sub_i).cast ?_) pNil) ?_).cast ?_) (lim_of ?_) (fun _ _ => rfl) (fun g _ => pVal (pBin (pVar rfl) (pVar rfl) ((in_int true).cast ?_))) fun _ _ _ => pVar rfl)))
  · show D.lst _ = D.lst ((pls.map (·.1)).map dI)
    rw [List.map_map]
    rfl
  · show D.int _ = D.int _
    congr 1
    omega
  · unfold big62
    exact decide_eq_true ⟨by omega, by omega⟩
  · rw [rng_D]
  · unfold rng
    rw [List.length_map, List.length_range]
    omega
  · rw [Bool.true_xor]
    by_cases z : g ∈ pls.map (·.1)
    · rw [decide_eq_true z, decide_eq_false fun w => w z]; rfl
    · rw [decide_eq_false z, decide_eq_true z]; rfl
theorem left_mem {n : Nat} (h0 : 0 ≤ g) (h1 : g < (n : Int) - 1) (hn : g ∉ pls.map (·.1)) : g ∈ leftG n pls := by
  unfold leftG rng
  refine List.mem_filter.mpr ⟨List.mem_map.mpr ⟨g.toNat, List.mem_range.mpr (by omega), by omega⟩, decide_eq_true hn⟩
theorem between_ok (N : NOk names) (h : Has S i j k names vds st pls) (hp : pls.length ≤ 100) (F : Fit st gs) (hg : g ∈ gs) (hl : g ∈ leftG names.length pls) (hin : In names.length st) (hst : st.length ≤ 100) : Pu S (f_Stand_between [.cel i, dI g]) (.tup [dS (nm names (lft st g)), dS (nm names (rgt st g))]) := by
  obtain ⟨_, l1, _, _⟩ := lft_ok F hg
  obtain ⟨_, r1, _, _⟩ := rgt_ok F hg
  have il := hin _ l1
  have ir := hin _ r1
  exact pFn (rSeq (nIf (pbOr_ff (pbNot_f (pVal (pCallG (pCons (pVar rfl) pNil) pNil whole_ok))) (pVal (pBin (pVar rfl) (pMth (pVar rfl) (Has.insOf h) (lk_st (by decide) (by decide) (by decide)) pNil pNil (gaps_ok N h hp)) ((in_int true).cast (by rw [decide_eq_true hl]; rfl))))) nNx)
    (rSeq (nAsg (pCallG (pCons (pUn (pVar rfl) (f_standing h)) (pCons (pVar rfl) pNil)) pNil (sides_ok (ls_standing h) F hg (by omega))) rfl) (rSeq (nAsg (pMth (pUn (pVar rfl) (f_row h)) (fun μ _ => ins_row μ) (lk_row (by decide) (by decide)) pNil pNil players_ok) rfl)
      (rRet (pTup (pCons (pBin (pVar rfl) (pVar rfl) (idx_int ls_lst il.1 (nm_at il.1 il.2))) (pCons (pBin (pVar rfl) (pVar rfl) (idx_int ls_lst ir.1 (nm_at ir.1 ir.2))) pNil)))))))
theorem pl_nm (N : NOk names) {s : Int} (h0 : 0 ≤ s) (h1 : s < names.length) : ((pl names (nm names s) : Nat) : Int) = s := by
  have hk : s.toNat < names.length := by omega
  have e : nm names s = names[s.toNat] := by
    unfold nm
    rw [List.getElem?_eq_getElem hk]
    rfl
  rw [e, pl_at N.nd hk]
  omega
/-- a play -/
theorem play_ok (N : NOk names) (F : Fit st (g :: gs)) (hl : g ∈ leftG names.length pls) (hin : In names.length st) (hst : st.length ≤ 100) (hp : pls.length ≤ 100) (hij : i ≠ j) (hik : i ≠ k) (hjk : j ≠ k) (μ : Mem) (h : StIn μ i j k names vds st pls) :
    ∃ ν, f_Stand_play [.cel i, dI g] μ = .ok (dS (nm names (fall names vds st g).2)) (((μ.set k (some (.lst ((pls ++ [(g, nm names (fall names vds st g).1, nm names (fall names vds st g).2)]).map hD)))).set j (some (iD (st.erase (fall names vds st g).2)))) ++ ν) := by
  let K := stK i j k names vds st pls
  have hK : Has K i j k names vds st pls := fun _ h => h
  obtain ⟨f1, f2, f3⟩ := fall_in (names := names) (vds := vds) F
  have w1 := hin _ f1
  have w2 := hin _ f2
  obtain ⟨_, l1, _, _⟩ := lft_ok F List.mem_cons_self
  obtain ⟨_, r1, _, _⟩ := rgt_ok F List.mem_cons_self
  have il := hin _ l1
  have ir := hin _ r1
  let E0 : CL.Env := [some (.cel i), some (dI g), none, none, none, none]
  let E1 : CL.Env := [some (.cel i), some (dI g), some (dS (nm names (lft st g))), some (dS (nm names (rgt st g))), none, none]
  let E2 : CL.Env := [some (.cel i), some (dI g), some (dS (nm names (lft st g))), some (dS (nm names (rgt st g))), some (dS (nm names (fall names vds st g).1)), some (dS (nm names (fall names vds st g).2))]
  have n1 : Nx K (sAsg (mMthG "Stand" "between" 1 0 gPos f_Stand_between (mVar 0) (mCons (mVar 1) mNil) mNil) (tgTup [2, 3])) E0 E1 := nAsg (pMth (pVar rfl) (Has.insOf hK) (lk_st (by decide) (by decide) (by decide)) (pCons (pVar rfl) pNil) pNil (between_ok N hK hp F List.mem_cons_self hl hin hst)) rfl
  have n2 : Nx K (sAsg (mIf (bVal (mMthG "Row" "beats" 2 0 gPos f_Row_beats (mUn (dFld ["Stand"] "own_row") (mVar 0)) (mCons (mVar 2) (mCons (mVar 3) mNil)) mNil)) (mTup (mCons (mVar 2) (mCons (mVar 3) mNil))) (mTup (mCons (mVar 3) (mCons (mVar 2) mNil)))) (tgTup [4, 5])) E1 E2 :=
    nAsg (d := .tup [dS (nm names (fall names vds st g).1), dS (nm names (fall names vds st g).2)]) ((pIf (t := decide ((nm names (lft st g), nm names (rgt st g)) ∈ vds)) (pVal (pMth (pUn (pVar rfl) (f_row hK)) (fun μ _ => ins_row μ) (lk_row (by decide) (by decide)) (pCons (pVar rfl) (pCons (pVar rfl) pNil)) pNil (beats_ok N (nm_mem il.1 il.2) (nm_mem ir.1 ir.2)))) (fun _ => pTup (pCons (pVar rfl) (pCons (pVar rfl) pNil))) (fun _ => pTup (pCons (pVar rfl) (pCons (pVar rfl) pNil)))).cast (by
      unfold fall
      by_cases z : (nm names (lft st g), nm names (rgt st g)) ∈ vds
      · rw [decide_eq_true z, if_pos rfl, if_pos z]
      · rw [decide_eq_false z, if_neg (by decide), if_neg z])) rfl
  obtain ⟨ν1, q1⟩ := n1 μ h
  have p1 : StIn (μ ++ ν1) i j k names vds st pls := h.app ν1
  obtain ⟨ν2, q2⟩ := n2 _ p1
  have p2 : StIn (μ ++ ν1 ++ ν2) i j k names vds st pls := p1.app ν2
  obtain ⟨μ2, eμ⟩ : ∃ μ2, μ ++ ν1 ++ ν2 = μ2 := ⟨_, rfl⟩
  rw [eμ] at q2 p2
  have hB : Has (both (one k (.lst (pls.map hD))) K) i j k names vds st pls := fun _ h => h.2
  obtain ⟨ν3, q3⟩ := app_ok (T := K) (i := k) (l := pls.map hD) (y := hD (g, nm names (fall names vds st g).1, nm names (fall names vds st g).2)) (env := E2) (o := mUn (dFld ["Stand"] "own_plays") (mVar 0)) (e := mTup (mCons (mVar 1) (mCons (mVar 4) (mCons (mVar 5) mNil))))
    (pUn (pVar rfl) (f_plays hB)) (pTup (pCons (pVar rfl) (pCons (pVar rfl) (pCons (pVar rfl) pNil)))) (by rw [List.length_map]; exact Nat.lt_of_lt_of_le (show pls.length < 1000 by omega) (by decide)) μ2 p2.pl p2
  have e3 : pls.map hD ++ [hD (g, nm names (fall names vds st g).1, nm names (fall names vds st g).2)] = (pls ++ [(g, nm names (fall names vds st g).1, nm names (fall names vds st g).2)]).map hD := by rw [List.map_append]; rfl
  rw [e3] at q3
  have p3 : StIn (μ2.set k (some (.lst ((pls ++ [(g, nm names (fall names vds st g).1, nm names (fall names vds st g).2)]).map hD))) ++ ν3) i j k names vds st (pls ++ [(g, nm names (fall names vds st g).1, nm names (fall names vds st g).2)]) :=
    ⟨one_ext ν3 (set_ne p2.ins (Ne.symm hik)), one_ext ν3 (set_ne p2.st (Ne.symm hjk)), one_ext ν3 (set_eq (lt_of_some p2.pl))⟩
  let K3 := stK i j k names vds st (pls ++ [(g, nm names (fall names vds st g).1, nm names (fall names vds st g).2)])
  have hB3 : Has (both (one j (iD st)) K3) i j k names vds st (pls ++ [(g, nm names (fall names vds st g).1, nm names (fall names vds st g).2)]) := fun _ h => h.2
  obtain ⟨ν4, q4⟩ := rem_ok (T := K3) (i := j) (l := st) (k := (fall names vds st g).2) (env := E2) (o := mUn (dFld ["Stand"] "own_standing") (mVar 0)) (e := mMthG "Row" "place" 1 0 gPos f_Row_place (mUn (dFld ["Stand"] "own_row") (mVar 0)) (mCons (mVar 5) mNil) mNil)
    (pUn (pVar rfl) (f_standing hB3)) ((pMth (pUn (pVar rfl) (f_row hB3)) (fun μ _ => ins_row μ) (lk_row (by decide) (by decide)) (pCons (pVar rfl) pNil) pNil (place_ok N (nm_mem w2.1 w2.2))).cast (by show D.int _ = D.int _; rw [pl_nm N w2.1 w2.2])) f2 _ p3.st p3
  have lj := lt_of_some h.st
  have lk := lt_of_some h.pl
  have ljk : j < (μ2.set k (some (.lst ((pls ++ [(g, nm names (fall names vds st g).1, nm names (fall names vds st g).2)]).map hD)))).length := by rw [List.length_set]; exact lt_of_some p2.st
  refine ⟨ν1 ++ ν2 ++ ν3 ++ ν4, ?_⟩
  have body : b_Stand_play E0 μ = .rt (dS (nm names (fall names vds st g).2)) (((μ.set k (some (.lst ((pls ++ [(g, nm names (fall names vds st g).1, nm names (fall names vds st g).2)]).map hD)))).set j (some (iD (st.erase (fall names vds st g).2)))) ++ (ν1 ++ ν2 ++ ν3 ++ ν4)) := by
    unfold b_Stand_play
    rw [seq_at q1, seq_at q2, seq_at q3, seq_at q4, ret_at (rfl : mVar 5 E2 _ = .ok _ _)]
    rw [set_app ljk, ← eμ]
    simp only [List.append_assoc]
    rw [set_app lk, set_app (by rw [List.length_set]; exact lj)]
    simp only [List.append_assoc]
  show (match b_Stand_play E0 μ with
    | .nx _ m => Rs.ok D.non m
    | .rt d m => .ok d m
    | .ex c x _ m => .ex c x m
    | _ => .no) = _
  rw [body]
theorem mth_at {cl m : Str} {n l : Nat} {gD : List D → List D → List D} {f : List D → M D} {o : ME} {ml mk : ML} {env : CL.Env} {μ : Mem} {x : D} {ds es : List D} {fds : List (Str × D)} (e1 : o env μ = .ok x μ) (hi : CL.insOf μ x = some (cl, fds)) (hn : fds.lookup m = none) (e2 : ml env μ = .ok ds μ) (e3 : mk env μ = .ok es μ) (hl : ds.length = n := by rfl) (hl2 : es.length = l := by rfl) :
    mMthG cl m n l gD f o ml mk env μ = f (gD (x :: ds) es) μ := by
  unfold mMthG
  rw [e1]
  show (match CL.insOf μ x with
    | some (c', fds) => if c' = cl ∧ fds.lookup m = none then mArgs ml mk (fun ds es => withLen (n + 1) l gD f (x :: ds) es) env μ else .no
    | none => Rs.no) = _
  rw [hi]
  dsimp only
  rw [if_pos ⟨rfl, hn⟩]
  unfold mArgs
  rw [e2]
  show ((mk env μ).bind fun es => _) = _
  rw [e3]
  show withLen (n + 1) l gD f (x :: ds) es μ = _
  unfold withLen
  rw [if_pos ⟨by rw [List.length_cons, hl], hl2⟩]
theorem sFld_at {cs : List Str} {f c : Str} {o v : ME} {env : CL.Env} {i : Nat} {fds : List (Str × D)} {y : D} {μ μ1 μ2 : Mem} (hv : v env μ = .ok y μ1) (ho : o env μ1 = .ok (.cel i) μ2) (h : μ2[i]? = some (some (.ins c fds))) (hc : cs.contains c = true) (hf : fds.length < 1000) :
    CL.sFld cs f o v env μ = .nx env (μ2.set i (some (.ins c (putD f y fds)))) := by
  unfold CL.sFld
  rw [hv]
  show (o env μ1).st env _ = _
  rw [ho]
  show (match μ2[i]? with
    | some (some (.ins c fds)) => if cs.contains c = true ∧ fds.length < 1000 then Sr.nx env (μ2.set i (some (.ins c (putD f y fds)))) else .no
    | _ => .no) = _
  rw [h]
  dsimp only
  rw [if_pos ⟨hc, hf⟩]
theorem putD_len (f : Str) (d : D) : ∀ l : List (Str × D), (putD f d l).length ≤ l.length + 1
  | [] => by simp [putD]
  | (g, x) :: r => by
    unfold putD
    split
    · simp
    · have := putD_len f d r
      simp only [List.length_cons]
      omega
def stAf (names : List Str) (vds : List (Str × Str)) : List Int → List Int → List Int
  | st, [] => st
  | st, g :: rest => stAf names vds (st.erase (fall names vds st g).2) rest
theorem stand_new {n l : Nat} {gD : List D → List D → List D} {ml mk : ML} {env : CL.Env} {ds es : List D} {μ μ0 μ1 : Mem} {X : D} {pl0 : List Int} (N : NOk names) (e1 : ml env μ = .ok ds μ0) (e2 : mk env μ0 = .ok es μ1) (hg : ∀ x, gD (x :: ds) es = [x, rowD names vds, X])
    (hX : ∀ E μ, E[2]? = some (some X) → iAny (mVar 2) E μ = .ok ⟨pl0.map dI, none⟩ μ) (h0 : ∀ g ∈ pl0, 0 ≤ g ∧ g < (names.length : Int) - 1) (nd : pl0.Nodup) (hlen : pl0.length ≤ 100) (hl : ds.length = n := by rfl) (hl2 : es.length = l := by rfl) :
    ∃ i j k μ', mNewG "Stand" n l gD f_Stand___init__ ml mk env μ = .ok (.cel i) μ' ∧ Gr μ1 μ' ∧ (μ1.length ≤ i ∧ μ1.length ≤ j ∧ μ1.length ≤ k) ∧ (i ≠ j ∧ i ≠ k ∧ j ≠ k) ∧ StIn μ' i j k names vds (stAf names vds (rng names.length) pl0) (hist names vds (rng names.length) pl0) := by
  have hn := N.few
  have h1 := N.one
  obtain ⟨i, ei⟩ : ∃ i, μ1.length = i := ⟨_, rfl⟩
  let E : CL.Env := [some (.cel i), some (rowD names vds), some X, none]
  have at_ : ∀ (x : Option D) (ν : Mem), (μ1 ++ [x] ++ ν)[i]? = some x := fun x ν => by
    rw [List.append_assoc, ← ei, List.getElem?_append_right (Nat.le_refl _), Nat.sub_self]
    rfl
  have set_ : ∀ (x y : Option D) (ν : Mem), (μ1 ++ [x] ++ ν).set i y = μ1 ++ [y] ++ ν := fun x y ν => by
    rw [List.append_assoc, ← ei, List.set_append_right _ _ (Nat.le_refl _), Nat.sub_self]
    simp
  -- the row
  have s1 := sFld_at (cs := ["Stand"]) (f := "own_row") (c := "Stand") (i := i) (fds := []) (v := mVar 1) (o := mVar 0) (env := E) (y := rowD names vds) (μ := μ1 ++ [some (.ins "Stand" [])] ++ []) rfl rfl (at_ _ []) (by decide) (by decide)
  rw [set_] at s1
  -- who stands
  obtain ⟨ν1, e3⟩ := pLenO (S := PU.top) (o := mVar 1) (env := E) (cl := "Row") (pVar rfl) (fun μ _ => ins_row (names := names) (vds := vds) μ) (rowLen_ok N) (by omega) (μ1 ++ [some (.ins "Stand" (putD "own_row" (rowD names vds) []))] ++ []) trivial
  rw [List.append_nil] at e3
  have v2 : mCall (dLrg kCe) (mCons (mLenO "Row" f_Row___len__ (mVar 1)) mNil) E (μ1 ++ [some (.ins "Stand" (putD "own_row" (rowD names vds) []))]) = .ok (.cel (μ1 ++ [some (D.ins "Stand" (putD "own_row" (rowD names vds) []))] ++ ν1).length) (μ1 ++ [some (.ins "Stand" (putD "own_row" (rowD names vds) []))] ++ (ν1 ++ [some (iD (rng names.length))])) := by
    have q : ∀ f : List D → M D, mCall f (mCons (mLenO "Row" f_Row___len__ (mVar 1)) mNil) E (μ1 ++ [some (.ins "Stand" (putD "own_row" (rowD names vds) []))]) = f [.int (names.length : Nat)] (μ1 ++ [some (.ins "Stand" (putD "own_row" (rowD names vds) []))] ++ ν1) := fun f => by
      unfold mCall mCons
      rw [e3]
      rfl
    rw [q, lrg_ok (by omega)]
    simp only [List.append_assoc]
  obtain ⟨j, ej⟩ : ∃ j, (μ1 ++ [some (D.ins "Stand" (putD "own_row" (rowD names vds) []))] ++ ν1).length = j := ⟨_, rfl⟩
  rw [ej] at v2
  have s2 := sFld_at (cs := ["Stand"]) (f := "own_standing") (c := "Stand") (i := i) (o := mVar 0) (env := E) v2 rfl (at_ _ _) (by decide) (by simp [putD])
  rw [set_] at s2
  -- no plays
  obtain ⟨k, ek⟩ : ∃ k, (μ1 ++ [some (D.ins "Stand" (putD "own_standing" (.cel j) (putD "own_row" (rowD names vds) [])))] ++ (ν1 ++ [some (iD (rng names.length))])).length = k := ⟨_, rfl⟩
  have v3 : mCel mNil E (μ1 ++ [some (D.ins "Stand" (putD "own_standing" (.cel j) (putD "own_row" (rowD names vds) [])))] ++ (ν1 ++ [some (iD (rng names.length))])) = .ok (.cel k) (μ1 ++ [some (D.ins "Stand" (putD "own_standing" (.cel j) (putD "own_row" (rowD names vds) [])))] ++ (ν1 ++ [some (iD (rng names.length))] ++ [some (.lst [])])) := by
    rw [cel_new, ek]
    simp only [List.append_assoc]
  have s3 := sFld_at (cs := ["Stand"]) (f := "own_plays") (c := "Stand") (i := i) (o := mVar 0) (env := E) v3 rfl (at_ _ _) (by decide) (by
    have a := putD_len "own_standing" (.cel j) (putD "own_row" (rowD names vds) [])
    have b := putD_len "own_row" (rowD names vds) []
    rw [List.length_nil] at b
    omega)
  rw [set_] at s3
  have ep : putD "own_plays" (.cel k) (putD "own_standing" (.cel j) (putD "own_row" (rowD names vds) [])) = stF names vds j k := rfl
  rw [ep] at s3
  have hj : j = μ1.length + 1 + ν1.length := by rw [← ej]; simp; omega
  have hk : k = μ1.length + 1 + ν1.length + 1 := by rw [← ek]; simp; omega
  have in0 : StIn (μ1 ++ [some (.ins "Stand" (stF names vds j k))] ++ (ν1 ++ [some (iD (rng names.length))] ++ [some (.lst [])])) i j k names vds (rng names.length) [] := by
    refine ⟨at_ _ _, ?_, ?_⟩
    · rw [← List.append_assoc, ← List.append_assoc, List.getElem?_append_left (by simp; omega), List.getElem?_append_right (by simp; omega)]
      rw [show j - (μ1 ++ [some (D.ins "Stand" (stF names vds j k))] ++ ν1).length = 0 by simp; omega]
      rfl
    · rw [← List.append_assoc, List.getElem?_append_right (by simp; omega)]
      rw [show k - (μ1 ++ [some (D.ins "Stand" (stF names vds j k))] ++ (ν1 ++ [some (iD (rng names.length))])).length = 0 by simp; omega]
      rfl
  have hij : i ≠ j := by omega
  have hik : i ≠ k := by omega
  have hjk : j ≠ k := by omega
  have F0 : Fit (rng names.length) pl0 := by
    have mem : ∀ x : Int, 0 ≤ x → x < names.length → x ∈ rng names.length := fun x y0 y1 => List.mem_map.mpr ⟨x.toNat, List.mem_range.mpr (by omega), by omega⟩
    refine ⟨fun g hg => ⟨0, mem 0 (by omega) (by omega), (h0 g hg).1⟩, fun g hg => ⟨g + 1, mem _ (by have := h0 g hg; omega) (by have := h0 g hg; omega), by omega⟩, fun h hh g hg hlt => ⟨g, mem g (h0 g hg).1 (by have := h0 g hg; omega), hlt, Int.le_refl _⟩, ?_⟩
    unfold rng
    exact List.Pairwise.map (S := fun a b : Int => a < b) (fun i : Nat => (i : Int)) (fun a b h => by omega) List.pairwise_lt_range
  let I : List Int → CL.Env → Mem → Prop := fun rest env μ' => ∃ st fd a, env = [some (.cel i), some (rowD names vds), some X, a] ∧ Gr μ1 μ' ∧ StIn μ' i j k names vds st fd ∧ Fit st rest ∧ rest.Nodup ∧ In names.length st ∧ st.length ≤ 24 ∧ fd.length + rest.length ≤ 100 ∧ (∀ g ∈ rest, (0 ≤ g ∧ g < (names.length : Int) - 1) ∧ g ∉ fd.map (·.1)) ∧
    stAf names vds st rest = stAf names vds (rng names.length) pl0 ∧ fd ++ hist names vds st rest = hist names vds (rng names.length) pl0
  obtain ⟨env', μ', q5, st, fd, a, rfl, gr, sin, _, _, _, _, _, _, t1, t2⟩ := loop_gen (xs0 := pl0.map dI) (put := (tgName 3).put) (body := sExpr (mMthG "Stand" "play" 1 0 gPos f_Stand_play (mVar 0) (mCons (mVar 3) mNil) mNil)) (g := dI) I (fun g rest env μ' hI => by
    obtain ⟨st, fd, a, rfl, gr, sin, F, nd, hin, hst, hfd, hr, t1, t2⟩ := hI
    obtain ⟨n1, n2⟩ := List.nodup_cons.mp nd
    rw [List.length_cons] at hfd
    obtain ⟨hg1, hg2⟩ := hr g List.mem_cons_self
    obtain ⟨ν, q⟩ := play_ok N F (left_mem hg1.1 hg1.2 hg2) hin (by omega) (by omega) hij hik hjk μ' sin
    obtain ⟨_, f2, f3⟩ := fall_in (names := names) (vds := vds) F
    have qe := mth_at (cl := "Stand") (m := "play") (n := 1) (l := 0) (gD := gPos) (f := f_Stand_play) (o := mVar 0) (ml := mCons (mVar 3) mNil) (mk := mNil) (env := [some (.cel i), some (rowD names vds), some X, some (dI g)]) (μ := μ') (x := .cel i) (ds := [dI g]) (es := []) rfl (Has.insOf (S := stK i j k names vds st fd) (fun _ h => h) μ' sin) (lk_st (by decide) (by decide) (by decide)) rfl rfl
    refine ⟨_, _, _, rfl, expr_at (qe.trans q), st.erase (fall names vds st g).2, fd ++ [(g, nm names (fall names vds st g).1, nm names (fall names vds st g).2)], _, rfl, ((gr.set (by omega)).set (by omega)).app, ?_, F.step n1 f3, n2, fun s hs => hin s (List.mem_of_mem_erase hs), Nat.le_trans (List.erase_sublist.length_le) hst, by rw [List.length_append, List.length_singleton]; omega, fun g' hg' => ⟨(hr g' (.tail _ hg')).1, ?_⟩, t1, ?_⟩
    · exact ⟨one_ext ν (set_ne (set_ne sin.ins (Ne.symm hik)) (Ne.symm hij)), one_ext ν (set_eq (by rw [List.length_set]; exact lt_of_some sin.st)), one_ext ν (set_ne (set_eq (lt_of_some sin.pl)) hjk)⟩
    · rw [List.map_append]
      intro z
      rcases List.mem_append.mp z with z | z
      · exact (hr g' (.tail _ hg')).2 z
      · have z2 : g' = g := List.mem_singleton.mp z
        exact n1 (by rw [← z2]; exact hg')
    · rw [List.append_assoc]
      exact t2)
    pl0 E _ ⟨rng names.length, [], none, rfl, ⟨_, by rw [List.append_assoc]⟩, in0, F0, nd, in_rng _, by unfold rng; rw [List.length_map, List.length_range]; exact hn, by rw [List.length_nil]; omega, fun g hg => ⟨h0 g hg, fun z => nomatch z⟩, rfl, rfl⟩
  have t2' : fd = hist names vds (rng names.length) pl0 := by rw [← t2]; exact (List.append_nil _).symm
  have t1' : st = stAf names vds (rng names.length) pl0 := t1
  subst t2' t1'
  refine ⟨i, j, k, μ', ?_, gr, ⟨by omega, by omega, by omega⟩, ⟨hij, hik, hjk⟩, sin⟩
  have body : b_Stand___init__ E (μ1 ++ [some (.ins "Stand" [])]) = .nx [some (.cel i), some (rowD names vds), some X, a] μ' := by
    unfold b_Stand___init__
    rw [List.append_nil] at s1
    rw [seq_at s1, seq_at (by rw [List.append_nil]; exact s2), seq_at s3, for_at (hX E _ rfl)]
    exact q5
  have fe : f_Stand___init__ [.cel i, rowD names vds, X] (μ1 ++ [some (.ins "Stand" [])]) = .ok .non μ' := by
    show (match b_Stand___init__ E (μ1 ++ [some (.ins "Stand" [])]) with
      | .nx _ m => Rs.ok D.non m
      | .rt d m => .ok d m
      | .ex c x _ m => .ex c x m
      | _ => .no) = _
    rw [body]
  unfold mNewG mArgs
  rw [e1]
  show ((mk env μ0).bind fun es => _) = _
  rw [e2]
  show gNew "Stand" (fun x => withLen (n + 1) l gD f_Stand___init__ (x :: ds) es) μ1 = _
  unfold gNew
  have w : withLen (n + 1) l gD f_Stand___init__ (.cel μ1.length :: ds) es (μ1 ++ [some (.ins "Stand" [])]) = .ok .non μ' := by
    unfold withLen
    rw [if_pos ⟨by rw [List.length_cons, hl], hl2⟩, hg, ei]
    exact fe
  dsimp only
  rw [w, ei]
theorem eq_cells {l : List Int} (h : ∀ μ, S.p μ → μ[j]? = some (some (iD l)) ∧ μ[j']? = some (some (iD l))) : Pu S (dEqA (.cel j) (.cel j')) (.bl true) := .of fun μ hp => by
  obtain ⟨h1, h2⟩ := h μ hp
  have c := cm_iD (l := l)
  have e : ∀ {a : Nat}, μ[a]? = some (some (iD l)) → pd μ 40 (.cel a) = some (.list (l.map .int)) := fun {a} ha => by
    have q := pd_up 40 (iD l) _ μ c.pd
    unfold pd at q ⊢
    dsimp only at q ⊢
    rw [ha]
    exact q
  have sh : SeqAt.shaped (.list (l.map PyData.int)) = true := by
    unfold SeqAt.shaped
    rw [c.can, decide_eq_true (Nat.le_trans c.dep (by decide))]
    rfl
  show dEq (.cel j) (.cel j') μ = _
  unfold dEq
  rw [e h1, e h2]
  dsimp only
  rw [sh, SeqAt.eqv_refl _ (SeqAt.canLay_of_shaped sh)]
  rfl
theorem isi_stand {c : Str} (hc : c = "Stand") (h : Has S i j k names vds st pls) (hk : (krs.any fun x => decide (x.c = "Stand")) = true) : Pu S (dIsiK krs c (.cel i)) (.bl true) := .of fun μ hp => by
  subst hc
  unfold dIsiK
  rw [Has.insOf h μ hp]
  dsimp only
  rw [if_pos hk, decide_eq_true rfl]
theorem standEq_ok (N : NOk names) {st' : List Int} {pls' : List (Int × Str × Str)} (h : Has S i j k names vds st pls) (h' : Has S i' j' k' names vds st' pls') (hp : pls.length ≤ 100) (hp' : pls'.length ≤ 100) (hs : st' = st) (hg : leftG names.length pls' = leftG names.length pls) : Pu S (f_Stand___eq__ [.cel i, .cel i']) (.bl true) := by
  subst hs
  exact pFn (rSeq (nIf (pbOr_ff (pbNot_f (pVal (pUn (pVar rfl) (isi_stand rfl h' (by decide +kernel))))) (pVal (pBin (pUn (pVar rfl) (f_row h)) (pUn (pVar rfl) (f_row h')) (pOwn (neg := true) (t := true) (fun μ _ => ins_row μ) (fun μ _ => ins_row μ) (rowEq_refl N))))) nNx)
    (rRet (pAnd_tt (pBin (pUn (pVar rfl) (f_standing h)) (pUn (pVar rfl) (f_standing h')) (eq_cells fun μ hp => ⟨(h μ hp).st, (h' μ hp).st⟩))
      (pBin (pMth (pVar rfl) (Has.insOf h) (lk_st (by decide) (by decide) (by decide)) pNil pNil (gaps_ok N h hp)) (pMth (pVar rfl) (Has.insOf h') (lk_st (by decide) (by decide) (by decide)) pNil pNil (gaps_ok N h' hp')) (by rw [hg]; exact eq_refl cm_iD.cmp)))))
end
end Gk12

namespace Gk12
open PySem CL PU
section
variable {S : Kn} {names : List Str} {p : Nat}
theorem mod_i {i j : Int} (h : 0 < j) : Pu S (dMod (.int i) (.int j)) (.int (i % j)) := .rfl_ fun μ => by
  show (match (if 0 < j then some (D.int (i % j)) else none) with
    | some d => Rs.ok d μ
    | none => .no) = _
  rw [if_pos h]
theorem fdiv_i {i j : Int} (h : 0 < j) (h2 : j < 2 ^ 60) : Pu S (dFdiv (.int i) (.int j)) (.int (i / j)) := .rfl_ fun μ => by
  have l2 : j.natAbs.log2 < 9000 := by
    have : j.natAbs ≠ 0 := by omega
    exact Nat.lt_of_lt_of_le ((Nat.log2_lt this).mpr (show j.natAbs < 2 ^ 60 by omega)) (by decide)
  show (match (if 0 < j ∧ j.natAbs.log2 < 9000 then some (D.int (i / j)) else none) with
    | some d => Rs.ok d μ
    | none => .no) = _
  rw [if_pos ⟨h, l2⟩]
theorem seqR_at {s t : MS} {env : CL.Env} {μ μ1 : Mem} {d : D} (h : s env μ = .rt d μ1) : sSeq s t env μ = .rt d μ1 := by
  unfold sSeq
  rw [h]
/-- the pool -/
structure PoolAt (μ : Mem) (p : Nat) : Prop where
  ex : ∃ a b, μ[p]? = some (some (iD [a, b])) ∧ 0 ≤ a ∧ 0 ≤ b ∧ b < 2147483647
/-- only the pool changed -/
structure Gp (p : Nat) (μ μ' : Mem) : Prop where
  len : μ.length ≤ μ'.length
  same : ∀ i, i < μ.length → i ≠ p → μ'[i]? = μ[i]?
theorem Gp.refl {μ : Mem} : Gp p μ μ := ⟨Nat.le_refl _, fun _ _ _ => rfl⟩
theorem Gp.trans {μ μ1 μ2 : Mem} (h : Gp p μ μ1) (h2 : Gp p μ1 μ2) : Gp p μ μ2 := ⟨Nat.le_trans h.len h2.len, fun i hi hp => (h2.same i (Nat.lt_of_lt_of_le hi h.len) hp).trans (h.same i hi hp)⟩
theorem Gp.of_gr {μ μ' : Mem} (h : Gr μ μ') : Gp p μ μ' := by
  obtain ⟨ν, rfl⟩ := h
  exact ⟨by rw [List.length_append]; omega, fun i hi _ => List.getElem?_append_left hi⟩
theorem Gp.set {μ : Mem} {d : Option D} : Gp p μ (μ.set p d) := ⟨by rw [List.length_set]; exact Nat.le_refl _, fun i _ h => List.getElem?_set_ne (Ne.symm h)⟩
theorem Gp.set_new {μ μ' : Mem} {i : Nat} {d : Option D} (h : Gp p μ μ') (hi : μ.length ≤ i) : Gp p μ (μ'.set i d) := ⟨by rw [List.length_set]; exact h.len, fun k hk hp => (List.getElem?_set_ne (by omega)).trans (h.same k hk hp)⟩
theorem PoolAt.gr {μ μ' : Mem} (h : PoolAt μ p) (g : Gr μ μ') : PoolAt μ' p := by
  obtain ⟨ν, rfl⟩ := g
  obtain ⟨a, b, e, r⟩ := h.ex
  exact ⟨a, b, one_ext ν e, r⟩
theorem PoolAt.set_ne {μ : Mem} {i : Nat} {d : Option D} (h : PoolAt μ p) (hi : i ≠ p) : PoolAt (μ.set i d) p := by
  obtain ⟨a, b, e, r⟩ := h.ex
  exact ⟨a, b, by rw [List.getElem?_set_ne hi]; exact e, r⟩
theorem store_at {o i v : ME} {env : CL.Env} {μ μ1 : Mem} {k q : Nat} {y : D} {ds : List D} (hv : v env μ = .ok y μ1) (ho : ∀ m, o env m = .ok (.cel p) m) (hi : ∀ m, i env m = .ok (.int (k : Nat)) m) (h : μ1[p]? = some (some (.lst ds))) (hk : k < ds.length) : sStore o i v env μ = .nx env (μ1.set p (some (.lst (ds.set k y)))) := by
  unfold sStore
  rw [hv]
  show (o env μ1).st env _ = _
  rw [ho]
  show (i env μ1).st env _ = _
  rw [hi]
  show (match setD (.cel p) (.int (k : Nat)) y μ1 with
    | some m4 => Sr.nx env m4
    | none => .no) = _
  unfold setD
  dsimp only
  rw [h]
  dsimp only
  have : L2.ixN ds.length (k : Nat) = some k := by
    unfold L2.ixN
    rw [if_pos (by omega), if_pos (by omega), Int.toNat_natCast]
  rw [this]
theorem take_ok {m : Int} (h0 : 0 < m) (h1 : m < 1000) (μ : Mem) (h : PoolAt μ p) : ∃ r μ', f__law_take [.cel p, dI m] μ = .ok (dI r) μ' ∧ Gp p μ μ' ∧ PoolAt μ' p ∧ 0 ≤ r ∧ r < m := by
  obtain ⟨a, b, e, a0, b0, b1⟩ := h.ex
  have hp := lt_of_some e
  let E : CL.Env := [some (.cel p), some (dI m), none]
  let K : Kn := one p (iD [a, b])
  have lK : Ls K (.cel p) [dI a, dI b] (some (p, iD [a, b])) := ls_cel fun _ h => h
  have ga : ∀ env : CL.Env, env[0]? = some (some (.cel p)) → Pu K (mBin dIdx (mVar 0) (mC (.int 0)) env) (dI a) := fun env he => pBin (pVar he) pC (idx_int lK (by decide) rfl)
  have gb : ∀ env : CL.Env, env[0]? = some (some (.cel p)) → Pu K (mBin dIdx (mVar 0) (mC (.int 1)) env) (dI b) := fun env he => pBin (pVar he) pC (idx_int lK (by decide) rfl)
  have t1 : Pu K (bVal (mBin dGt (mBin dIdx (mVar 0) (mC (.int 0))) (mC (.int 0))) E) (decide (0 < a)) := pVal (pBin (ga E rfl) pC gt_b)
  obtain ⟨ν1, e1⟩ := t1 μ e
  have p1 : (μ ++ ν1)[p]? = some (some (iD [a, b])) := one_ext ν1 e
  by_cases ha : 0 < a
  · -- from the great number
    rw [decide_eq_true ha] at e1
    let E2 : CL.Env := [some (.cel p), some (dI m), some (dI (a % m))]
    have n2 : Nx K (sAsg (mBin dMod (mBin dIdx (mVar 0) (mC (.int 0))) (mVar 1)) (tgName 2)) E E2 := nAsg (pBin (ga E rfl) (pVar rfl) (mod_i h0)) rfl
    obtain ⟨ν2, e2⟩ := n2 _ p1
    have p2 : (μ ++ ν1 ++ ν2)[p]? = some (some (iD [a, b])) := one_ext ν2 p1
    obtain ⟨ν3, e3⟩ := (pBin (g := dFdiv) (ga E2 rfl) (pVar (i := 1) rfl) (fdiv_i h0 (by omega))) _ p2
    have p3 : (μ ++ ν1 ++ ν2 ++ ν3)[p]? = some (some (.lst [dI a, dI b])) := one_ext ν3 p2
    have e4 := store_at (o := mVar 0) (i := mC (.int 0)) (env := E2) (k := 0) (q := 0) e3 (fun _ => rfl) (fun _ => rfl) p3 (by simp)
    have gr : Gr μ (μ ++ ν1 ++ ν2 ++ ν3) := ((Gr.refl.app).app).app
    refine ⟨a % m, (μ ++ ν1 ++ ν2 ++ ν3).set p (some (.lst ([dI a, dI b].set 0 (dI (a / m))))), ?_, (Gp.of_gr gr).trans Gp.set, ⟨a / m, b, List.getElem?_set_self (Nat.lt_of_lt_of_le hp gr.len), Int.ediv_nonneg a0 (Int.le_of_lt h0), b0, b1⟩, Int.emod_nonneg _ (by omega), Int.emod_lt_of_pos _ h0⟩
    have body : b__law_take E μ = .rt (dI (a % m)) ((μ ++ ν1 ++ ν2 ++ ν3).set p (some (.lst ([dI a, dI b].set 0 (dI (a / m)))))) := by
      unfold b__law_take
      have s1 : sIf (bVal (mBin dGt (mBin dIdx (mVar 0) (mC (.int 0))) (mC (.int 0)))) (sSeq (sAsg (mBin dMod (mBin dIdx (mVar 0) (mC (.int 0))) (mVar 1)) (tgName 2)) (sSeq (sStore (mVar 0) (mC (.int 0)) (mBin dFdiv (mBin dIdx (mVar 0) (mC (.int 0))) (mVar 1))) (sRet (mVar 2)))) sNx E μ = .rt (dI (a % m)) ((μ ++ ν1 ++ ν2 ++ ν3).set p (some (.lst ([dI a, dI b].set 0 (dI (a / m)))))) := by
        unfold sIf
        rw [e1]
        show (sSeq (sAsg (mBin dMod (mBin dIdx (mVar 0) (mC (.int 0))) (mVar 1)) (tgName 2)) (sSeq (sStore (mVar 0) (mC (.int 0)) (mBin dFdiv (mBin dIdx (mVar 0) (mC (.int 0))) (mVar 1))) (sRet (mVar 2)))) E (μ ++ ν1) = _
        rw [seq_at e2, seq_at e4]
        rfl
      exact seqR_at s1
    show (match b__law_take E μ with
      | .nx _ m => Rs.ok D.non m
      | .rt d m => .ok d m
      | .ex c x _ m => .ex c x m
      | _ => .no) = _
    rw [body]
  · rw [decide_eq_false ha] at e1
    let b' : Int := (b * 48271 + 11) % 2147483647
    have b0' : 0 ≤ b' := Int.emod_nonneg _ (by decide)
    have b1' : b' < 2147483647 := Int.emod_lt_of_pos _ (by decide)
    obtain ⟨ν2, e2⟩ := (pBin (g := dMod) (z := dI b') (pBin (pBin (gb E rfl) (pC (d := .int 48271)) (mul_ok (by omega) (by decide))) (pC (d := .int 11)) (add_i (k := kFz))) (pC (d := .int 2147483647)) (mod_i (by decide))) _ p1
    have p2 : (μ ++ ν1 ++ ν2)[p]? = some (some (.lst [dI a, dI b])) := one_ext ν2 p1
    have e3 := store_at (o := mVar 0) (i := mC (.int 1)) (env := E) (k := 1) (q := 1) e2 (fun _ => rfl) (fun _ => rfl) p2 (by simp)
    have gr : Gr μ (μ ++ ν1 ++ ν2) := (Gr.refl.app).app
    have p3 : ((μ ++ ν1 ++ ν2).set p (some (.lst ([dI a, dI b].set 1 (dI b')))))[p]? = some (some (iD [a, b'])) := List.getElem?_set_self (Nat.lt_of_lt_of_le hp gr.len)
    have lK2 : Ls (one p (iD [a, b'])) (.cel p) [dI a, dI b'] (some (p, iD [a, b'])) := ls_cel fun _ h => h
    have gb2 : Pu (one p (iD [a, b'])) (mBin dIdx (mVar 0) (mC (.int 1)) E) (dI b') := pBin (pVar rfl) pC (idx_int lK2 (by decide) rfl)
    obtain ⟨ν4, e4⟩ := (pBin (g := dMod) (z := dI (b' * b' % 2147483629 / 64 % m)) (pBin (pBin (pBin gb2 gb2 (mul_ok (by omega) (by omega))) (pC (d := .int 2147483629)) (mod_i (by decide))) (pC (d := .int 64)) (fdiv_i (by decide) (by decide))) (pVar (i := 1) rfl) (mod_i h0)) _ p3
    refine ⟨b' * b' % 2147483629 / 64 % m, _, ?_, ((Gp.of_gr gr).trans Gp.set).trans (Gp.of_gr ⟨ν4, rfl⟩), ⟨a, b', one_ext ν4 p3, a0, b0', b1'⟩, Int.emod_nonneg _ (by omega), Int.emod_lt_of_pos _ h0⟩
    have body : b__law_take E μ = .rt (dI (b' * b' % 2147483629 / 64 % m)) ((μ ++ ν1 ++ ν2).set p (some (.lst ([dI a, dI b].set 1 (dI b')))) ++ ν4) := by
      unfold b__law_take
      have s1 : sIf (bVal (mBin dGt (mBin dIdx (mVar 0) (mC (.int 0))) (mC (.int 0)))) (sSeq (sAsg (mBin dMod (mBin dIdx (mVar 0) (mC (.int 0))) (mVar 1)) (tgName 2)) (sSeq (sStore (mVar 0) (mC (.int 0)) (mBin dFdiv (mBin dIdx (mVar 0) (mC (.int 0))) (mVar 1))) (sRet (mVar 2)))) sNx E μ = .nx E (μ ++ ν1) := by
        unfold sIf
        rw [e1]
        rfl
      rw [seq_at s1, seq_at e3]
      exact ret_at e4
    show (match b__law_take E μ with
      | .nx _ m => Rs.ok D.non m
      | .rt d m => .ok d m
      | .ex c x _ m => .ex c x m
      | _ => .no) = _
    rw [body]
theorem append_at {o e : ME} {env : CL.Env} {i : Nat} {l : List D} {y : D} {μ μ2 : Mem} (ho : o env μ = .ok (.cel i) μ) (he : e env μ = .ok y μ2) (h : μ[i]? = some (some (.lst l))) (h2 : μ2[i]? = some (some (.lst l))) (hl : l.length < lim) : sExpr (mMeth "list" gAppend o (mCons e mNil)) env μ = .nx env (μ2.set i (some (.lst (l ++ [y])))) := by
  have a : mMeth "list" gAppend o (mCons e mNil) env μ = .ok .non (μ2.set i (some (.lst (l ++ [y])))) := by
    unfold mMeth
    rw [ho]
    show (if tyOf "list" μ (.cel i) = true then ((mCons e mNil env μ).bind fun ds => gAppend (.cel i) ds) else .no) = _
    rw [if_pos (show tyOf "list" μ (.cel i) = true by
      unfold tyOf lstOf
      dsimp only
      rw [h]
      rfl)]
    have ec : mCons e mNil env μ = .ok [y] μ2 := by
      unfold mCons
      rw [he]
      rfl
    rw [ec]
    show gAppend (.cel i) [y] μ2 = _
    unfold gAppend celL
    dsimp only
    rw [h2]
    dsimp only
    rw [if_pos hl]
  exact expr_at a
/-- one way round or the other -/
inductive Sw : List (Str × Str) → List (Str × Str) → Prop
  | nil : Sw [] []
  | snoc {a b : List (Str × Str)} (p q : Str × Str) : Sw a b → (q = p ∨ q = (p.2, p.1)) → Sw (a ++ [q]) (b ++ [p])
theorem Sw.len {a b : List (Str × Str)} (h : Sw a b) : a.length = b.length := by
  induction h with
  | nil => rfl
  | snoc p q _ _ ih => rw [List.length_append, List.length_append, ih]; rfl
theorem Sw.mem {a b : List (Str × Str)} (h : Sw a b) : ∀ q ∈ a, ∃ p ∈ b, q = p ∨ q = (p.2, p.1) := by
  induction h with
  | nil => exact fun _ h => nomatch h
  | snoc p q _ e ih =>
    intro r hr
    rcases List.mem_append.mp hr with hr | hr
    · obtain ⟨s, h1, h2⟩ := ih r hr
      exact ⟨s, List.mem_append_left _ h1, h2⟩
    · rw [List.mem_singleton.mp hr]
      exact ⟨p, List.mem_append_right _ (List.mem_singleton_self _), e⟩
theorem Sw.mem2 {a b : List (Str × Str)} (h : Sw a b) : ∀ p ∈ b, p ∈ a ∨ (p.2, p.1) ∈ a := by
  induction h with
  | nil => exact fun _ h => nomatch h
  | snoc p q _ e ih =>
    intro r hr
    rcases List.mem_append.mp hr with hr | hr
    · rcases ih r hr with z | z
      · exact .inl (List.mem_append_left _ z)
      · exact .inr (List.mem_append_left _ z)
    · rw [List.mem_singleton.mp hr]
      rcases e with e | e
      · exact .inl (List.mem_append_right _ (by rw [e]; exact List.mem_singleton_self _))
      · exact .inr (List.mem_append_right _ (by rw [e]; exact List.mem_singleton_self _))
theorem Sw.uns {a b : List (Str × Str)} (h : Sw a b) (hb : ∀ p ∈ b, un (p.2, p.1) = un p) : a.map un = b.map un := by
  induction h with
  | nil => rfl
  | snoc p q _ e ih =>
    rw [List.map_append, List.map_append, ih fun r hr => hb r (List.mem_append_left _ hr)]
    congr 1
    show [un q] = [un p]
    rcases e with e | e
    · rw [e]
    · rw [e, hb p (List.mem_append_right _ (List.mem_singleton_self _))]
theorem sw_vds (N : NOk names) {a : List (Str × Str)} (h : Sw a (tw names)) : VdsOk names a := by
  refine ⟨⟨fun q hq => ?_, ?_⟩, by rw [h.len]; exact tw_count names⟩
  · obtain ⟨p, hp, e⟩ := h.mem q hq
    have m := tw_mem N.nd hp
    rcases e with e | e
    · rw [e]; exact m
    · rw [e]; exact ⟨m.2.1, m.1, fun z => m.2.2 z.symm⟩
  · rw [h.uns fun p hp => un_swap (N.tot _ (tw_mem N.nd hp).1 _ (tw_mem N.nd hp).2.1 (tw_mem N.nd hp).2.2)]
    exact tw_pairs N
def wE : ME := (mIf (bVal (mBin dEqA (mCallG 2 0 gPos f__law_take (mCons (mVar 0) (mCons (mC (.int 2)) mNil)) mNil) (mC (.int 0)))) (mTup (mCons (mVar 4) (mCons (mVar 5) mNil))) (mTup (mCons (mVar 5) (mCons (mVar 4) mNil))))
theorem wE_ok {e1 e2 e3 : Option D} {x y : Str} (μ : Mem) (h : PoolAt μ p) : ∃ q μ', wE [some (.cel p), e1, e2, e3, some (dS x), some (dS y)] μ = .ok (dP q) μ' ∧ Gp p μ μ' ∧ PoolAt μ' p ∧ (q = (x, y) ∨ q = (y, x)) := by
  obtain ⟨r, μ', e, g, po, _, _⟩ := take_ok (p := p) (m := 2) (by decide) (by decide) μ h
  have c : bVal (mBin dEqA (mCallG 2 0 gPos f__law_take (mCons (mVar 0) (mCons (mC (.int 2)) mNil)) mNil) (mC (.int 0))) [some (.cel p), e1, e2, e3, some (dS x), some (dS y)] μ = .ok (r == 0) μ' := by
    have : mCallG 2 0 gPos f__law_take (mCons (mVar 0) (mCons (mC (.int 2)) mNil)) mNil [some (.cel p), e1, e2, e3, some (dS x), some (dS y)] μ = f__law_take [.cel p, dI 2] μ := rfl
    unfold bVal mBin
    rw [this, e]
    rfl
  cases hr : (r == 0) with
  | true =>
    refine ⟨(x, y), μ', ?_, g, po, .inl rfl⟩
    unfold wE mIf
    rw [c, hr]
    rfl
  | false =>
    refine ⟨(y, x), μ', ?_, g, po, .inr rfl⟩
    unfold wE mIf
    rw [c, hr]
    rfl
theorem won_ok (N : NOk names) (μ : Mem) (h : PoolAt μ p) (hp : p < μ.length) : ∃ vds μ', f__law_won [.cel p, nmD names] μ = .ok (vdD vds) μ' ∧ Gp p μ μ' ∧ PoolAt μ' p ∧ Sw vds (tw names) := by
  have hn := N.few
  have hl1 := tw_len names
  have hl2 : names.length * names.length ≤ 24 * 24 := Nat.mul_le_mul hn hn
  obtain ⟨i, ei⟩ : ∃ i, μ.length = i := ⟨_, rfl⟩
  have hip : i ≠ p := by omega
  have a0 : (μ ++ [some (D.lst [])])[i]? = some (some (.lst (([] : List (Str × Str)).map dP))) := by
    rw [← ei, List.getElem?_append_right (Nat.le_refl _), Nat.sub_self]
    rfl
  let Rest : List (Str × Nat) → List (Str × Str) := fun l => l.flatMap fun p => (names.drop (p.2 + 1)).map fun o => (p.1, o)
  let St : List (Str × Str) → Mem → Prop := fun todo μ' => ∃ acc pre, Gp p μ μ' ∧ PoolAt μ' p ∧ μ'[i]? = some (some (.lst (acc.map dP))) ∧ Sw acc pre ∧ pre ++ todo = tw names
  let inner : MS := sExpr (mMeth "list" gAppend (mVar 2) (mCons wE mNil))
  let I : List (Str × Nat) → CL.Env → Mem → Prop := fun rest env μ' => ∃ a b c, env = [some (.cel p), some (nmD names), some (.cel i), a, b, c] ∧ St (Rest rest) μ'
  have turn : ∀ (q : Str × Nat) (rest : List (Str × Nat)) (env : CL.Env) (μ' : Mem), I (q :: rest) env μ' → ∃ env1 env2 μ2, (tgTup [3, 4]).put (.tup [.int (q.2 : Nat), dS q.1]) env = some env1 ∧ sFor (iSeq (mSl kFz (mVar 1) (oSome (mBin (dAddK kFz) (mVar 3) (mC (.int 1)))) oNone)) (tgName 5) inner env1 μ' = .nx env2 μ2 ∧ I rest env2 μ2 := by
    rintro q rest env μ' ⟨a, b, c, rfl, st⟩
    refine ⟨[some (.cel p), some (nmD names), some (.cel i), some (.int (q.2 : Nat)), some (dS q.1), c], ?_⟩
    have wk := (wSeq (S := PU.top) (env := [some (.cel p), some (nmD names), some (.cel i), some (.int (q.2 : Nat)), some (dS q.1), c]) (pFrom (k := q.2 + 1) (a := mVar 1) (b := mBin (dAddK kFz) (mVar 3) (mC (.int 1))) (pVar rfl) ls_lst ((pBin (pVar rfl) (pC (d := .int 1)) add_i).cast rfl)) ls_lst)
    obtain ⟨ν, ew⟩ := wk μ' trivial
    obtain ⟨acc, pre, g, po, ce, sw, tot⟩ := st
    let I2 : List Str → CL.Env → Mem → Prop := fun todo env μ' => ∃ d, env = [some (.cel p), some (nmD names), some (.cel i), some (.int (q.2 : Nat)), some (dS q.1), d] ∧ St (todo.map (fun o => (q.1, o)) ++ Rest rest) μ'
    obtain ⟨env2, μ2, el, d, e2, st2⟩ := loop_gen (xs0 := (names.drop (q.2 + 1)).map dS) (put := (tgName 5).put) (body := inner) (g := dS) I2 (fun o todo env μ3 hI => by
      obtain ⟨d, rfl, acc, pre, g, po, ce, sw, tot⟩ := hI
      obtain ⟨r, μ4, ee, g4, po4, hr⟩ := wE_ok (p := p) (e1 := some (nmD names)) (e2 := some (.cel i)) (e3 := some (.int (q.2 : Nat))) (x := q.1) (y := o) μ3 po
      have ce4 : μ4[i]? = some (some (.lst (acc.map dP))) := by rw [g4.same i (lt_of_some ce) hip]; exact ce
      have lacc : acc.length ≤ 576 := by
        rw [sw.len]
        have := congrArg List.length tot
        rw [List.length_append] at this
        omega
      refine ⟨_, _, _, rfl, append_at (o := mVar 2) rfl ee ce ce4 (by rw [List.length_map]; exact Nat.lt_of_lt_of_le (show acc.length < 1000 by omega) (by decide)), _, rfl, acc ++ [r], pre ++ [(q.1, o)], ((g.trans g4).set_new (by omega)), po4.set_ne hip, ?_, .snoc _ _ sw hr, ?_⟩
      · rw [List.map_append]
        exact set_eq (lt_of_some ce4)
      · rw [List.append_assoc]
        exact tot)
      (names.drop (q.2 + 1)) [some (.cel p), some (nmD names), some (.cel i), some (.int (q.2 : Nat)), some (dS q.1), c] (μ' ++ ν) ⟨c, rfl, acc, pre, g.trans (Gp.of_gr ⟨ν, rfl⟩), po.gr ⟨ν, rfl⟩, one_ext ν ce, sw, tot⟩
    refine ⟨env2, μ2, rfl, ?_, some (.int (q.2 : Nat)), some (dS q.1), d, e2, st2⟩
    rw [for_at ew]
    have em : (names.map dS).drop (q.2 + 1) = (names.drop (q.2 + 1)).map dS := by rw [List.map_drop]
    dsimp only
    rw [em]
    exact el
  obtain ⟨env', μ', q5, a, b, c, rfl, acc, pre, g, po, ce, sw, tot⟩ := loop_gen (xs0 := names.zipIdx.map fun q => .tup [.int (q.2 : Nat), dS q.1]) (put := (tgTup [3, 4]).put) (body := sFor (iSeq (mSl kFz (mVar 1) (oSome (mBin (dAddK kFz) (mVar 3) (mC (.int 1)))) oNone)) (tgName 5) inner) (g := fun q : Str × Nat => .tup [.int (q.2 : Nat), dS q.1]) I turn
    names.zipIdx [some (.cel p), some (nmD names), some (.cel i), none, none, none] (μ ++ [some (D.lst [])]) ⟨_, _, _, rfl, [], [], Gp.of_gr ⟨_, rfl⟩, h.gr ⟨_, rfl⟩, a0, .nil, rfl⟩
  have tot' : pre = tw names := by rw [← tot]; exact (List.append_nil _).symm
  subst tot'
  have ef := frz_cel (g := dP) (fun _ _ => rfl) ce
  refine ⟨acc, μ'.set i none, ?_, g.set_new (by omega), po.set_ne hip, sw⟩
  have body : b__law_won [some (.cel p), some (nmD names), none, none, none, none] μ = .rt (vdD acc) (μ'.set i none) := by
    show (sSeq (sAsg (mCel mNil) (tgName 2)) (sSeq (sFor (iEnumM (mCons (mVar 1) mNil)) (tgTup [3, 4]) (sFor (iSeq (mSl kFz (mVar 1) (oSome (mBin (dAddK kFz) (mVar 3) (mC (.int 1)))) oNone)) (tgName 5) inner)) (sRet (mFrz (mVar 2))))) [some (.cel p), some (nmD names), none, none, none, none] μ = _
    have ew : iEnumM (mCons (mVar 1) mNil) [some (.cel p), some (nmD names), some (.cel i), none, none, none] (μ ++ [some (D.lst [])]) = .ok ⟨names.zipIdx.map fun q => .tup [.int (q.2 : Nat), dS q.1], none⟩ (μ ++ [some (D.lst [])]) := by
      rw [← enum_map]
      rfl
    rw [seq_at (asg_at (env1 := [some (.cel p), some (nmD names), some (.cel i), none, none, none]) ((cel_new μ).trans (by rw [ei])) rfl), seq_at ((for_at ew).trans q5)]
    exact ret_at ef
  show (match b__law_won [some (.cel p), some (nmD names), none, none, none, none] μ with
    | .nx _ m => Rs.ok D.non m
    | .rt d m => .ok d m
    | .ex c x _ m => .ex c x m
    | _ => .no) = _
  rw [body]
theorem pow_i {i j : Int} (h0 : 0 ≤ j) (h1 : j ≤ 1000000) (h2 : i.natAbs < 2 ^ 64) : Pu S (dPow (.int i) (.int j)) (.int (i ^ j.toNat)) := .rfl_ fun μ => by
  show (match (if 0 ≤ j ∧ j ≤ 1000000 ∧ i.natAbs < 2 ^ 64 then some (D.int (i ^ j.toNat)) else none) with
    | some d => Rs.ok d μ
    | none => .no) = _
  rw [if_pos ⟨h0, h1, h2⟩]
theorem mul_big {i j : Int} (h : i.natAbs.log2 + j.natAbs.log2 + 2 ≤ 134217728) : Pu S (dMul (.int i) (.int j)) (.int (i * j)) := .rfl_ fun μ => by
  show (match (if i.natAbs.log2 + j.natAbs.log2 + 2 ≤ 134217728 then some (D.int (i * j)) else none) with
    | some d => Rs.ok d μ
    | none => .no) = _
  rw [if_pos h]
def absI (z : Int) : Int := if z < 0 then -z else z
theorem pool_ok (ns : List Int) (hl : ns.length ≤ 63) (hb : ∀ z ∈ ns, Builtin.Int.intBits z ≤ 1048576) {k : Int} (k0 : 0 ≤ k) (k1 : k ≤ 100) (μ : Mem) : ∃ i μ', f__law_pool [scriptD ns, dI k] μ = .ok (.cel i) μ' ∧ Gr μ μ' ∧ i < μ'.length ∧ PoolAt μ' i := by
  have h2 : ∃ z : Int, (z = 0 ∨ z ∈ ns) ∧ Nx PU.top (sIf (bVal (mBin dLt (mVar 1) (mCall dLen (mCons (mVar 0) mNil)))) (sAsg (mBin dIdx (mVar 0) (mVar 1)) (tgName 2)) sNx) [some (scriptD ns), some (dI k), some (dI 0), none, none] [some (scriptD ns), some (dI k), some (dI z), none, none] := by
    by_cases hk : k < ns.length
    · have hk' : k.toNat < ns.length := by omega
      refine ⟨ns[k.toNat], .inr (List.getElem_mem _), nIfT (pVal (pBin (pVar rfl) (pCall (pCons (pVar rfl) pNil) (len_ls ls_lst)) (lt_t (by rw [List.length_map]; exact hk)))) (nAsg (pBin (pVar rfl) (pVar rfl) (idx_int (l := ns.map dI) ls_lst k0 (by rw [List.getElem?_map, List.getElem?_eq_getElem hk']; rfl))) rfl)⟩
    · exact ⟨0, .inl rfl, nIf (pVal (pBin (pVar rfl) (pCall (pCons (pVar rfl) pNil) (len_ls ls_lst)) (lt_f (by rw [List.length_map]; exact hk)))) nNx⟩
  obtain ⟨z, hz, n2⟩ := h2
  have lz : z.natAbs.log2 ≤ 1048576 := by
    rcases hz with e | hz
    · rw [e]; decide
    · have := hb z hz
      unfold Builtin.Int.intBits at this
      by_cases e : z = 0
      · rw [e]; decide
      · rw [if_neg (by simpa using e)] at this
        omega
  have n1 : Nx PU.top (sAsg (mC (.int 0)) (tgName 2)) [some (scriptD ns), some (dI k), none, none, none] [some (scriptD ns), some (dI k), some (dI 0), none, none] := nAsg pC rfl
  have n3 : Nx PU.top (sAsg (mCall dAbs (mCons (mVar 2) mNil)) (tgName 3)) [some (scriptD ns), some (dI k), some (dI z), none, none] [some (scriptD ns), some (dI k), some (dI z), some (dI (absI z)), none] := nAsg (pCall (pCons (pVar rfl) pNil) (.rfl_ fun _ => rfl)) rfl
  let r : Int := z % 2147483629
  have r0 : 0 ≤ r := Int.emod_nonneg _ (by decide)
  have r1 : r < 2147483629 := Int.emod_lt_of_pos _ (by decide)
  have kk : 0 ≤ 104729 * k * k ∧ 104729 * k * k ≤ 104729 * 100 * 100 := by
    have a1 : 0 ≤ 104729 * k := Int.mul_nonneg (by decide) k0
    refine ⟨Int.mul_nonneg a1 k0, ?_⟩
    exact Int.mul_le_mul (by omega) k1 k0 (by decide)
  let b : Int := (r + 104729 * k * k + 7919 * k + 11) ^ (3 : Int).toNat % 2147483647
  have b0 : 0 ≤ b := Int.emod_nonneg _ (by decide)
  have b1 : b < 2147483647 := Int.emod_lt_of_pos _ (by decide)
  have n4 : Nx PU.top (sAsg (mBin dMod (mBin dPow (mBin (dAddK kFz) (mBin (dAddK kFz) (mBin (dAddK kFz) (mBin dMod (mVar 2) (mC (.int 2147483629))) (mBin dMul (mBin dMul (mC (.int 104729)) (mVar 1)) (mVar 1))) (mBin dMul (mC (.int 7919)) (mVar 1))) (mC (.int 11))) (mC (.int 3))) (mC (.int 2147483647))) (tgName 4)) [some (scriptD ns), some (dI k), some (dI z), some (dI (absI z)), none] [some (scriptD ns), some (dI k), some (dI z), some (dI (absI z)), some (dI b)] :=
    nAsg (pBin (pBin (pBin (pBin (pBin (pBin (pVar rfl) pC (mod_i (by decide))) (pBin (pBin pC (pVar rfl) (mul_ok (by decide) (by omega))) (pVar rfl) (mul_ok (by omega) (by omega))) add_i) (pBin pC (pVar rfl) (mul_ok (by decide) (by omega))) add_i) pC add_i) pC (pow_i (by decide) (by decide) (by omega))) pC (mod_i (by decide))) rfl
  let u : Int := if (decide ((10 : Int) ^ (18 : Int).toNat ≤ absI z)) = true then 1 else 0
  have a0 : 0 ≤ absI z := by unfold absI; split <;> omega
  have u0 : 0 ≤ u ∧ u.natAbs.log2 ≤ 1 := by
    show 0 ≤ (if (decide ((10 : Int) ^ (18 : Int).toNat ≤ absI z)) = true then (1 : Int) else 0) ∧ (if (decide ((10 : Int) ^ (18 : Int).toNat ≤ absI z)) = true then (1 : Int) else 0).natAbs.log2 ≤ 1
    split <;> decide
  have la : (absI z).natAbs = z.natAbs := by unfold absI; split <;> omega
  have v5 : Pu PU.top (mCons (mBin dMul (mVar 3) (mCall dIntC (mCons (mBin dGe (mVar 3) (mBin dPow (mC (.int 10)) (mC (.int 18)))) mNil))) (mCons (mVar 4) mNil) [some (scriptD ns), some (dI k), some (dI z), some (dI (absI z)), some (dI b)]) [dI (absI z * u), dI b] :=
    pCons (pBin (y := dI u) (pVar rfl) (pCall (pCons (pBin (pVar rfl) (pBin pC pC (pow_i (by decide) (by decide) (by decide))) (z := .bl (decide ((10 : Int) ^ (18 : Int).toNat ≤ absI z))) (.rfl_ fun _ => rfl)) pNil) (.rfl_ fun _ => rfl)) (mul_big (by rw [la]; omega))) (pCons (pVar rfl) pNil)
  obtain ⟨m1, q1, g1⟩ : ∃ m1, sAsg (mC (.int 0)) (tgName 2) [some (scriptD ns), some (dI k), none, none, none] μ = .nx _ m1 ∧ Gr μ m1 := let ⟨ν, e⟩ := n1 μ trivial; ⟨_, e, ν, rfl⟩
  obtain ⟨ν2, q2⟩ := n2 m1 trivial
  obtain ⟨ν3, q3⟩ := n3 _ trivial
  obtain ⟨ν4, q4⟩ := n4 _ trivial
  obtain ⟨ν5, q5⟩ := v5 _ trivial
  obtain ⟨m5, e5⟩ : ∃ m5, m1 ++ ν2 ++ ν3 ++ ν4 ++ ν5 = m5 := ⟨_, rfl⟩
  rw [e5] at q5
  have g5 : Gr μ m5 := by rw [← e5]; exact (((g1.app).app).app).app
  refine ⟨m5.length, m5 ++ [some (iD [absI z * u, b])], ?_, g5.app, by simp, ⟨absI z * u, b, ?_, Int.mul_nonneg a0 u0.1, b0, b1⟩⟩
  · have body : b__law_pool [some (scriptD ns), some (dI k), none, none, none] μ = .rt (.cel m5.length) (m5 ++ [some (iD [absI z * u, b])]) := by
      unfold b__law_pool
      rw [seq_at q1, seq_at q2, seq_at q3, seq_at q4]
      refine ret_at ?_
      unfold mCel
      rw [q5]
      rfl
    show (match b__law_pool [some (scriptD ns), some (dI k), none, none, none] μ with
      | .nx _ m => Rs.ok D.non m
      | .rt d m => .ok d m
      | .ex c x _ m => .ex c x m
      | _ => .no) = _
    rw [body]
  · rw [List.getElem?_append_right (Nat.le_refl _), Nat.sub_self]
    rfl
end
end Gk12

set_option maxHeartbeats 0
namespace Gk12
open PySem CL PU
section
variable {S : Kn} {names : List Str} {vds : List (Str × Str)} {x y : Str} {t : List Str} {ord : List Int}
theorem names_rev (N : NOk names) : NOk names.reverse :=
  ⟨List.pairwise_reverse.mpr (N.nd.imp fun h => Ne.symm h), by rw [List.length_reverse]; exact N.one, by rw [List.length_reverse]; exact N.few, fun s h => N.ok s (List.mem_reverse.mp h), fun s h => N.nm s (List.mem_reverse.mp h), fun a ha b hb => N.tot a (List.mem_reverse.mp ha) b (List.mem_reverse.mp hb)⟩
theorem pl_one (nd : (x :: y :: t).Nodup) : pl (x :: y :: t) y = 1 := pl_at (names := x :: y :: t) nd (i := 1) (by simp)
theorem isB_t : Pu S (dIsB true (.bl true) (.bl true)) (.bl false) := .rfl_ fun _ => rfl
theorem xor_beats (N : NOk (x :: y :: t)) (sw : Sw vds (tw (x :: y :: t))) : (decide ((y, x) ∈ vds) == decide ((x, y) ∈ vds)) = false := by
  have V := sw_vds N sw
  have hxy : x ≠ y := fun z => (List.nodup_cons.mp N.nd).1 (by rw [z]; exact List.mem_cons_self)
  have ht : (x, y) ∈ tw (x :: y :: t) := by
    rw [tw_rec, twR]
    exact List.mem_append_left _ (List.mem_map.mpr ⟨y, List.mem_cons_self, rfl⟩)
  have eu : un (y, x) = un (x, y) := un_swap (p := (x, y)) (N.tot _ List.mem_cons_self _ (.tail _ List.mem_cons_self) hxy)
  have no2 : ¬ ((x, y) ∈ vds ∧ (y, x) ∈ vds) := fun ⟨h1, h2⟩ => by
    have := inj_of V.nd _ h2 _ h1 eu
    exact hxy (congrArg Prod.snd this)
  rcases sw.mem2 _ ht with h | h
  · rw [decide_eq_true h, decide_eq_false fun z => no2 ⟨h, z⟩]; rfl
  · rw [decide_eq_true h, decide_eq_false fun z => no2 ⟨z, h⟩]; rfl
theorem ownF {f : List D → M D} {c : Str} {a b : D} {f1 f2 : List (Str × D)} (h1 : ∀ μ, S.p μ → insOf μ a = some (c, f1)) (h2 : ∀ μ, S.p μ → insOf μ b = some (c, f2)) (h : Pu S (f [a, b]) (.bl true)) : Pu S (dOwn true c f a b) (.bl false) := pOwn (neg := true) (t := true) h1 h2 h
theorem ownT {f : List D → M D} {c : Str} {a b : D} {f1 f2 : List (Str × D)} (h1 : ∀ μ, S.p μ → insOf μ a = some (c, f1)) (h2 : ∀ μ, S.p μ → insOf μ b = some (c, f2)) (h : Pu S (f [a, b]) (.bl true)) : Pu S (dOwn false c f a b) (.bl true) := pOwn (neg := false) (t := true) h1 h2 h
theorem rowsRight_ok (N : NOk (x :: y :: t)) (sw : Sw vds (tw (x :: y :: t))) : Pu S (f__law_rows_right [rowD (x :: y :: t) vds, nmD (x :: y :: t), vdD vds]) (.bl true) := by
  have V := sw_vds N sw
  have hx : x ∈ x :: y :: t := List.mem_cons_self
  have hy : y ∈ x :: y :: t := .tail _ List.mem_cons_self
  have hxy : x ≠ y := fun z => (List.nodup_cons.mp N.nd).1 (by rw [z]; exact List.mem_cons_self)
  have R := names_rev N
  have PO : PairsOk (x :: y :: t) [(x, y)] := ⟨fun p hp => by rw [List.mem_singleton.mp hp]; exact ⟨hx, hy, hxy⟩, List.nodup_cons.mpr ⟨fun z => (nomatch z), .nil⟩⟩
  have sub : [y].Sublist (x :: y :: t) := .cons _ (.cons₂ _ (List.nil_sublist _))
  have lot : [y] ≠ [] := fun z => nomatch z
  have lx : ∀ {S : Kn}, Pu S (dIdx (nmD (x :: y :: t)) (.int 0)) (dS x) := fun {S} => idx_int ls_lst (by decide) rfl
  have ly : ∀ {S : Kn}, Pu S (dIdx (nmD (x :: y :: t)) (.int 1)) (dS y) := fun {S} => idx_int ls_lst (by decide) rfl
  have L : ∀ {m : Str}, (m == "own_places") = false → (m == "own_verdicts") = false → (rowF (x :: y :: t) vds).lookup m = none := fun {m} h1 h2 => lk_row h1 h2
  let names := x :: y :: t
  let E0 : CL.Env := [some (rowD (x :: y :: t) vds), some (nmD (x :: y :: t)), some (vdD vds), none, none]
  let E1 : CL.Env := [some (rowD (x :: y :: t) vds), some (nmD (x :: y :: t)), some (vdD vds), some (dS x), some (dS y)]
  have n0 : Nx S (sIf (bOr (bVal (mBin (dOwn true "Row" f_Row___eq__) (mFrz (mNewG "Row" 0 2 (gPerm [(false, 0), (true, 1), (true, 0)]) f_Row___init__ mNil (mCons (mVar 2) (mCons (mVar 1) mNil)))) (mVar 0))) (bVal (mBin (dIsB true) (mCallG 0 1 (gPerm [(true, 0)]) f_is_name mNil (mCons (mBin dIdx (mVar 1) (mC (.int 0))) mNil)) (mC (.bl true))))) (sRet (mC (.bl false))) sNx) E0 E0 := nIf (pbOr_ff (pVal (pBin (row_new (ds := []) (es := [vdD vds, nmD (x :: y :: t)]) N V pNil (pCons (pVar rfl) (pCons (pVar rfl) pNil)) fun _ => rfl) (pVar rfl) (ownF (fun μ _ => ins_row μ) (fun μ _ => ins_row μ) (rowEq_refl N)))) (pVal (pBin (pCallG pNil (pCons (pBin (pVar rfl) pC lx) pNil) (.rfl_ (N.nm x hx))) pC isB_t))) nNx
  have n1 : Nx S (sPar 3 4 (mCons (mBin dIdx (mVar 1) (mC (.int 0))) (mCons (mBin dIdx (mVar 1) (mC (.int 1))) mNil))) E0 E1 := nPar (pCons (pBin (pVar rfl) pC lx) (pCons (pBin (pVar rfl) pC ly) pNil))
  have n2 : Nx S (sIf (bOr (bVal (mBin (dIsB true) (mMthG "Row" "has" 0 1 (gPerm [(false, 0), (true, 0)]) f_Row_has (mVar 0) mNil (mCons (mVar 3) mNil)) (mC (.bl true)))) (bOr (bVal (mBin dNeA (mMthG "Row" "place" 0 1 (gPerm [(false, 0), (true, 0)]) f_Row_place (mVar 0) mNil (mCons (mVar 4) mNil)) (mC (.int 1)))) (bVal (mBin dNeA (mMthG "Row" "beats" 0 2 (gPerm [(false, 0), (true, 1), (true, 0)]) f_Row_beats (mVar 0) mNil (mCons (mVar 4) (mCons (mVar 3) mNil))) (mMthG "Row" "beats" 2 0 gPos f_Row_beats (mVar 0) (mCons (mVar 3) (mCons (mVar 4) mNil)) mNil))))) (sRet (mC (.bl false))) sNx) E1 E1 := nIf (pbOr_ff (pVal (pBin (pMth (pVar rfl) (fun μ _ => ins_row μ) (L (by decide) (by decide)) pNil (pCons (pVar rfl) pNil) (has_ok N hx)) pC isB_t)) (pbOr_ff (pVal (pBin (pMth (pVar rfl) (fun μ _ => ins_row μ) (L (by decide) (by decide)) pNil (pCons (pVar rfl) pNil) (place_ok N hy)) pC (ne_f (by rw [pl_one N.nd]; rfl)))) (pVal (pBin (pMth (pVar rfl) (fun μ _ => ins_row μ) (L (by decide) (by decide)) pNil (pCons (pVar rfl) (pCons (pVar rfl) pNil)) (beats_ok N hx hy)) (pMth (pVar rfl) (fun μ _ => ins_row μ) (L (by decide) (by decide)) (pCons (pVar rfl) (pCons (pVar rfl) pNil)) pNil (beats_ok N hx hy)) (ne_bl.cast (by rw [beq_self_eq_true]; rfl)))))) nNx
  have n3 : Nx S (sIf (bOr (bVal (mBin dEqA (mMthG "Row" "beats" 0 2 (gPerm [(false, 0), (true, 1), (true, 0)]) f_Row_beats (mVar 0) mNil (mCons (mVar 3) (mCons (mVar 4) mNil))) (mMthG "Row" "beats" 2 0 gPos f_Row_beats (mVar 0) (mCons (mVar 3) (mCons (mVar 4) mNil)) mNil))) (bVal (mBin dNeA (mMthG "Row" "beaten" 0 1 (gPerm [(false, 0), (true, 0)]) f_Row_beaten (mVar 0) mNil (mCons (mVar 3) mNil)) (mMthG "Row" "beaten" 1 0 gPos f_Row_beaten (mVar 0) (mCons (mVar 3) mNil) mNil)))) (sRet (mC (.bl false))) sNx) E1 E1 := nIf (pbOr_ff (pVal (pBin (pMth (pVar rfl) (fun μ _ => ins_row μ) (L (by decide) (by decide)) pNil (pCons (pVar rfl) (pCons (pVar rfl) pNil)) (beats_ok N hy hx)) (pMth (pVar rfl) (fun μ _ => ins_row μ) (L (by decide) (by decide)) (pCons (pVar rfl) (pCons (pVar rfl) pNil)) pNil (beats_ok N hx hy)) (eq_bl.cast (by rw [xor_beats N sw])))) (pVal (pBin (pMth (pVar rfl) (fun μ _ => ins_row μ) (L (by decide) (by decide)) pNil (pCons (pVar rfl) pNil) (beaten_ok N hx)) (pMth (pVar rfl) (fun μ _ => ins_row μ) (L (by decide) (by decide)) (pCons (pVar rfl) pNil) pNil (beaten_ok N hx)) (ne_refl (cm_nm fun s hs => N.ok s (List.mem_filter.mp hs).1).cmp)))) nNx
  have tu : Pu S (f_Row_turned [rowD (x :: y :: t) vds, .lst [.tup [dS x, dS y]]]) (rowD (x :: y :: t) (turnL (x :: y :: t) vds [(x, y)])) := by
    have e : (D.lst [.tup [dS x, dS y]]) = vdD [(x, y)] := rfl
    rw [e]
    exact turned_ok N PO (show 1 ≤ 300 by decide)
  have pa : Pu S (f_Row_part [rowD (x :: y :: t) vds, .lst [dS y]]) (rowD [y] (partL (x :: y :: t) [y] vds)) := by
    have e : (D.lst [dS y]) = nmD [y] := rfl
    rw [e]
    exact part_ok N sub lot
  have n4 : Nx S (sIf (bOr (bVal (mBin (dOwn true "Row" f_Row___eq__) (mMthG "Row" "turned" 0 1 (gPerm [(false, 0), (true, 0)]) f_Row_turned (mVar 0) mNil (mCons (mLst (mCons (mTup (mCons (mVar 3) (mCons (mVar 4) mNil))) mNil)) mNil)) (mMthG "Row" "turned" 1 0 gPos f_Row_turned (mVar 0) (mCons (mLst (mCons (mTup (mCons (mVar 3) (mCons (mVar 4) mNil))) mNil)) mNil) mNil))) (bVal (mBin (dOwn true "Row" f_Row___eq__) (mMthG "Row" "part" 0 1 (gPerm [(false, 0), (true, 0)]) f_Row_part (mVar 0) mNil (mCons (mLst (mCons (mVar 4) mNil)) mNil)) (mMthG "Row" "part" 1 0 gPos f_Row_part (mVar 0) (mCons (mLst (mCons (mVar 4) mNil)) mNil) mNil)))) (sRet (mC (.bl false))) sNx) E1 E1 := nIf (pbOr_ff (pVal (pBin (pMth (pVar rfl) (fun μ _ => ins_row μ) (L (by decide) (by decide)) pNil (pCons (pLst (pCons (pTup (pCons (pVar rfl) (pCons (pVar rfl) pNil))) pNil)) pNil) tu) (pMth (pVar rfl) (fun μ _ => ins_row μ) (L (by decide) (by decide)) (pCons (pLst (pCons (pTup (pCons (pVar rfl) (pCons (pVar rfl) pNil))) pNil)) pNil) pNil tu) (ownF (fun μ _ => ins_row μ) (fun μ _ => ins_row μ) (rowEq_refl N))))
      (pVal (pBin (pMth (pVar rfl) (fun μ _ => ins_row μ) (L (by decide) (by decide)) pNil (pCons (pLst (pCons (pVar rfl) pNil)) pNil) pa) (pMth (pVar rfl) (fun μ _ => ins_row μ) (L (by decide) (by decide)) (pCons (pLst (pCons (pVar rfl) pNil)) pNil) pNil pa) (ownF (fun μ _ => ins_row μ) (fun μ _ => ins_row μ) (rowEq_refl (lot_names N sub lot)))))) nNx
  have rv : Pu S (dRev kFz (nmD (x :: y :: t))) (nmD (x :: y :: t).reverse) := .rfl_ fun μ => by
    show Rs.ok (D.lst ((x :: y :: t).map dS).reverse) μ = Rs.ok (D.lst ((x :: y :: t).reverse.map dS)) μ
    rw [List.map_reverse]
  have ca : Pu S (f_Row_called [rowD (x :: y :: t) vds, nmD (x :: y :: t).reverse]) (rowD (x :: y :: t).reverse (callL (x :: y :: t) (x :: y :: t).reverse vds)) := called_ok N R (by rw [List.length_reverse])
  have n5 : Rt S (sRet (mBin (dOwn false "Row" f_Row___eq__) (mMthG "Row" "called" 0 1 (gPerm [(false, 0), (true, 0)]) f_Row_called (mVar 0) mNil (mCons (mUn (dRev kFz) (mVar 1)) mNil)) (mMthG "Row" "called" 1 0 gPos f_Row_called (mVar 0) (mCons (mUn (dRev kFz) (mVar 1)) mNil) mNil))) E1 (.bl true) := rRet (pBin (pMth (pVar rfl) (fun μ _ => ins_row μ) (L (by decide) (by decide)) pNil (pCons (pUn (pVar rfl) rv) pNil) ca) (pMth (pVar rfl) (fun μ _ => ins_row μ) (L (by decide) (by decide)) (pCons (pUn (pVar rfl) rv) pNil) pNil ca) (ownT (fun μ _ => ins_row μ) (fun μ _ => ins_row μ) (rowEq_refl R)))
  exact pFn (rSeq n0 (rSeq n1 (rSeq n2 (rSeq n3 (rSeq n4 n5)))))
end
end Gk12

set_option maxHeartbeats 0
namespace Gk12
open PySem CL PU
section
variable {S : Kn} {names : List Str} {vds : List (Str × Str)} {ord : List Int} {env env1 : CL.Env} {a b : ME} {c c' : MB} {s t : MS} {μ μ1 μ2 : Mem}
theorem bin_at {g : D → D → M D} {x y z : D} {μ3 : Mem} (h1 : a env μ = .ok x μ1) (h2 : b env μ1 = .ok y μ2) (h3 : g x y μ2 = .ok z μ3) : mBin g a b env μ = .ok z μ3 := by
  unfold mBin
  rw [h1]
  show ((b env μ1).bind fun y => g x y) = _
  rw [h2]
  exact h3
theorem val_at {k : Bool} (h : a env μ = .ok (.bl k) μ1) : bVal a env μ = .ok k μ1 := by
  unfold bVal
  rw [h]
  rfl
theorem or_at {k : Bool} (h : c env μ = .ok false μ1) (h2 : c' env μ1 = .ok k μ2) : bOr c c' env μ = .ok k μ2 := by
  unfold bOr
  rw [h]
  exact h2
theorem if_at (h : c env μ = .ok false μ1) : sIf c s sNx env μ = .nx env μ1 := by
  unfold sIf
  rw [h]
  rfl
theorem fn_at {n N : Nat} {b : MS} {ds : List D} {d : D} (h : b (ds.map some ++ List.replicate (N - n) none) μ = .rt d μ1) (hl : ds.length = n) : fnM n N b ds μ = .ok d μ1 := by
  unfold fnM
  rw [if_pos hl, h]
/-- a Stand stays where only other things change -/
theorem StIn.keep {i j k : Nat} {st : List Int} {pls : List (Int × Str × Str)} (h : StIn μ i j k names vds st pls) (e : ∀ q, q < μ.length → q = i ∨ q = j ∨ q = k → μ1[q]? = μ[q]?) : StIn μ1 i j k names vds st pls :=
  ⟨(e i (lt_of_some h.ins) (.inl rfl)).trans h.ins, (e j (lt_of_some h.st) (.inr (.inl rfl))).trans h.st, (e k (lt_of_some h.pl) (.inr (.inr rfl))).trans h.pl⟩
theorem StIn.gr {i j k : Nat} {st : List Int} {pls : List (Int × Str × Str)} (h : StIn μ i j k names vds st pls) (g : Gr μ μ1) : StIn μ1 i j k names vds st pls := by
  obtain ⟨ν, rfl⟩ := g
  exact h.app ν
/-- two Stands alike -/
theorem same_at (N : NOk names) {neg : Bool} {i j k i' j' k' : Nat} {st : List Int} {pls : List (Int × Str × Str)} (h : StIn μ i j k names vds st pls) (h' : StIn μ i' j' k' names vds st pls) (hp : pls.length ≤ 100) : ∃ μ', dOwn neg "Stand" f_Stand___eq__ (.cel i) (.cel i') μ = .ok (.bl (true ^^ neg)) μ' ∧ Gr μ μ' := by
  let K := both (stK i j k names vds st pls) (stK i' j' k' names vds st pls)
  have a1 : Has K i j k names vds st pls := fun _ h => h.1
  have a2 : Has K i' j' k' names vds st pls := fun _ h => h.2
  obtain ⟨ν, e⟩ := pOwn (S := K) (neg := neg) (t := true) (Has.insOf a1) (Has.insOf a2) (standEq_ok N a1 a2 hp hp rfl rfl) μ ⟨h, h'⟩
  exact ⟨_, e, ν, rfl⟩
theorem cons_at {x : D} {xs : List D} {ml : ML} (h1 : a env μ = .ok x μ1) (h2 : ml env μ1 = .ok xs μ2) : mCons a ml env μ = .ok (x :: xs) μ2 := by
  unfold mCons
  rw [h1]
  show ((ml env μ1).bind fun xs μ2 => Rs.ok (x :: xs) μ2) = _
  rw [h2]
  rfl
theorem wk_tup (E : CL.Env) (μ : Mem) (h : E[2]? = some (some (.tup []))) : iAny (mVar 2) E μ = .ok ⟨([] : List Int).map dI, none⟩ μ := by
  unfold iAny mVar
  rw [h]
  rfl
theorem wk_lst (l : List Int) (E : CL.Env) (μ : Mem) (h : E[2]? = some (some (iD l))) : iAny (mVar 2) E μ = .ok ⟨l.map dI, none⟩ μ := by
  unfold iAny mVar
  rw [h]
  rfl
theorem playsRight_ok (N : NOk names) (O : OrdOk ((names.length : Int) - 1) ord) {g : Int} {rest : List Int} (ho : ord = g :: rest) (hn2 : 2 ≤ names.length) (μ : Mem) : ∃ μ', f__law_plays_right [rowD names vds, iD ord] μ = .ok (.bl true) μ' := by
  have hn := N.few
  have hol := O.len
  have nil0 : ∀ g ∈ ([] : List Int), 0 ≤ g ∧ g < (names.length : Int) - 1 := fun g h => nomatch h
  have olen : ord.length ≤ 100 := by omega
  have hlen : (hist names vds (rng names.length) ord).length ≤ 100 := by rw [hist_len]; exact olen
  let E0 : CL.Env := [some (rowD names vds), some (iD ord), none, none]
  have n1 : Nx PU.top (sIf (bOr (bVal (mBin dNeA (mCallG 0 2 (gPerm [(true, 1), (true, 0)]) f_history_of mNil (mCons (mVar 1) (mCons (mVar 0) mNil))) (mCallG 2 0 gPos f_history_of (mCons (mVar 0) (mCons (mVar 1) mNil)) mNil))) (bVal (mBin dNeA (mCallG 0 2 (gPerm [(true, 1), (true, 0)]) f_lots_of mNil (mCons (mVar 1) (mCons (mVar 0) mNil))) (mCallG 2 0 gPos f_lots_of (mCons (mVar 0) (mCons (mVar 1) mNil)) mNil)))) (sRet (mC (.bl false))) sNx) E0 E0 :=
    nIf (pbOr_ff (pVal (pBin (pCallG pNil (pCons (pVar rfl) (pCons (pVar rfl) pNil)) (history_ok N O)) (pCallG (pCons (pVar rfl) (pCons (pVar rfl) pNil)) pNil (history_ok N O)) (ne_refl (cmp_hist N (hist_mem N ord _ (fit_start O (by omega)) O.nd (in_rng _)))))) (pVal (pBin (pCallG pNil (pCons (pVar rfl) (pCons (pVar rfl) pNil)) (lots_ok N O)) (pCallG (pCons (pVar rfl) (pCons (pVar rfl) pNil)) pNil (lots_ok N O)) (ne_refl (cmp_lots N))))) nNx
  have n2 : Nx PU.top (sIf (bVal (mBin dNeA (mCallG 0 2 (gPerm [(true, 1), (true, 0)]) f_last_of mNil (mCons (mVar 1) (mCons (mVar 0) mNil))) (mCallG 2 0 gPos f_last_of (mCons (mVar 0) (mCons (mVar 1) mNil)) mNil))) (sRet (mC (.bl false))) sNx) E0 E0 :=
    nIf (pVal (pBin (pCallG pNil (pCons (pVar rfl) (pCons (pVar rfl) pNil)) (last_ok N O)) (pCallG (pCons (pVar rfl) (pCons (pVar rfl) pNil)) pNil (last_ok N O)) (ne_strb.cast (by rw [decide_eq_false fun z => z rfl])))) nNx
  obtain ⟨ν1, q1⟩ := n1 μ trivial
  obtain ⟨ν2, q2⟩ := n2 _ trivial
  obtain ⟨m0, em0⟩ : ∃ m0, μ ++ ν1 ++ ν2 = m0 := ⟨_, rfl⟩
  rw [em0] at q2
  -- two Stands
  obtain ⟨i, j, k, m1, e1, g1, ⟨i0, j0, k0⟩, ⟨hij, hik, hjk⟩, s1⟩ := stand_new (n := 0) (l := 1) (gD := gDfl [(false, 0), (true, 0)] [.tup []]) (ml := mNil) (mk := mCons (mVar 0) mNil) (env := E0) (ds := []) (es := [rowD names vds]) (μ := m0) (X := .tup []) (pl0 := []) (vds := vds) N rfl rfl (fun _ => rfl) wk_tup nil0 .nil (Nat.zero_le _)
  obtain ⟨i', j', k', m2, e2, g2, ⟨i0', j0', k0'⟩, ⟨hij', hik', hjk'⟩, s2⟩ := stand_new (n := 1) (l := 1) (gD := gPerm [(false, 0), (false, 1), (true, 0)]) (ml := mCons (mVar 0) mNil) (mk := mCons (mLst mNil) mNil) (env := E0) (ds := [rowD names vds]) (es := [.lst []]) (μ := m1) (X := .lst []) (pl0 := []) (vds := vds) N rfl rfl (fun _ => rfl) (wk_lst []) nil0 .nil (Nat.zero_le _)
  have li := lt_of_some s1.ins
  have lj := lt_of_some s1.st
  have lk := lt_of_some s1.pl
  have s1' := s1.gr g2
  let E1 : CL.Env := [some (rowD names vds), some (iD ord), some (.cel i), some (.cel i')]
  have q3 : sPar 2 3 (mCons (mNewG "Stand" 0 1 (gDfl [(false, 0), (true, 0)] [.tup []]) f_Stand___init__ mNil (mCons (mVar 0) mNil)) (mCons (mNewG "Stand" 1 1 (gPerm [(false, 0), (false, 1), (true, 0)]) f_Stand___init__ (mCons (mVar 0) mNil) (mCons (mLst mNil) mNil)) mNil)) E0 m0 = .nx E1 m2 := by
    unfold sPar
    rw [cons_at e1 (cons_at e2 rfl)]
    rfl
  -- compared
  obtain ⟨m3, e3, g3⟩ := same_at (neg := true) N s1' s2 (Nat.zero_le _)
  obtain ⟨i3, j3, k3, m4, e4, g4, _, _, s3⟩ := stand_new (n := 0) (l := 2) (gD := gPerm [(false, 0), (true, 1), (true, 0)]) (ml := mNil) (mk := mCons (mTup mNil) (mCons (mVar 0) mNil)) (env := E1) (ds := []) (es := [.tup [], rowD names vds]) (μ := m3) (X := .tup []) (pl0 := []) (vds := vds) N rfl rfl (fun _ => rfl) wk_tup nil0 .nil (Nat.zero_le _)
  obtain ⟨m5, e5, g5⟩ := same_at (neg := true) N ((s1'.gr g3).gr g4) s3 (Nat.zero_le _)
  obtain ⟨i4, j4, k4, m6, e6, g6, _, _, s4⟩ := stand_new (n := 0) (l := 2) (gD := gPerm [(false, 0), (true, 1), (true, 0)]) (ml := mNil) (mk := mCons (mVar 1) (mCons (mVar 0) mNil)) (env := E1) (ds := []) (es := [iD ord, rowD names vds]) (μ := m5) (X := iD ord) (pl0 := ord) (vds := vds) N rfl rfl (fun _ => rfl) (wk_lst ord) O.rg O.nd olen
  obtain ⟨i5, j5, k5, m7, e7, g7, _, _, s5⟩ := stand_new (n := 1) (l := 1) (gD := gPerm [(false, 0), (false, 1), (true, 0)]) (ml := mCons (mVar 0) mNil) (mk := mCons (mVar 1) mNil) (env := E1) (ds := [rowD names vds]) (es := [iD ord]) (μ := m6) (X := iD ord) (pl0 := ord) (vds := vds) N rfl rfl (fun _ => rfl) (wk_lst ord) O.rg O.nd olen
  obtain ⟨m8, e8, g8⟩ := same_at (neg := true) N (s4.gr g7) s5 hlen
  have q4 : sIf (bOr (bVal (mBin (dOwn true "Stand" f_Stand___eq__) (mVar 2) (mVar 3))) (bOr (bVal (mBin (dOwn true "Stand" f_Stand___eq__) (mVar 2) (mNewG "Stand" 0 2 (gPerm [(false, 0), (true, 1), (true, 0)]) f_Stand___init__ mNil (mCons (mTup mNil) (mCons (mVar 0) mNil))))) (bVal (mBin (dOwn true "Stand" f_Stand___eq__) (mNewG "Stand" 0 2 (gPerm [(false, 0), (true, 1), (true, 0)]) f_Stand___init__ mNil (mCons (mVar 1) (mCons (mVar 0) mNil))) (mNewG "Stand" 1 1 (gPerm [(false, 0), (false, 1), (true, 0)]) f_Stand___init__ (mCons (mVar 0) mNil) (mCons (mVar 1) mNil)))))) (sRet (mC (.bl false))) sNx E1 m2 = .nx E1 m8 :=
    if_at (or_at (val_at (bin_at rfl rfl e3)) (or_at (val_at (bin_at rfl e4 e5)) (val_at (bin_at e6 e7 e8))))
  have G : Gr m2 m8 := g3.trans (g4.trans (g5.trans (g6.trans (g7.trans g8))))
  have A := s1'.gr G
  have B := s2.gr G
  -- a play each
  have hg : 0 ≤ g ∧ g < (names.length : Int) - 1 := O.rg g (by rw [ho]; exact List.mem_cons_self)
  have F : Fit (rng names.length) (g :: rest) := ho ▸ fit_start O (by omega)
  have hl : g ∈ leftG names.length ([] : List (Int × Str × Str)) := left_mem hg.1 hg.2 (fun z => nomatch z)
  have rl : (rng names.length).length ≤ 100 := by unfold rng; rw [List.length_map, List.length_range]; omega
  let K := both (stK i j k names vds (rng names.length) []) (stK i' j' k' names vds (rng names.length) [])
  have hA : Has K i j k names vds (rng names.length) [] := fun _ h => h.1
  have hB : Has K i' j' k' names vds (rng names.length) [] := fun _ h => h.2
  have og : ∀ {S : Kn}, Pu S (dIdx (iD ord) (.int 0)) (dI g) := fun {S} => idx_int ls_lst (by decide) (by rw [ho]; rfl)
  obtain ⟨ν9, e9⟩ := (pVal (S := K) (env := E1) (t := false) (pBin (g := dNeA) (a := mMthG "Stand" "between" 0 1 (gPerm [(false, 0), (true, 0)]) f_Stand_between (mVar 2) mNil (mCons (mBin dIdx (mVar 1) (mC (.int 0))) mNil)) (b := mMthG "Stand" "between" 1 0 gPos f_Stand_between (mVar 3) (mCons (mBin dIdx (mVar 1) (mC (.int 0))) mNil) mNil)
    (pMth (pVar rfl) (Has.insOf hA) (lk_st (by decide) (by decide) (by decide)) pNil (pCons (pBin (pVar rfl) pC og) pNil) (between_ok N hA (Nat.zero_le _) F List.mem_cons_self hl (in_rng _) rl))
    (pMth (pVar rfl) (Has.insOf hB) (lk_st (by decide) (by decide) (by decide)) (pCons (pBin (pVar rfl) pC og) pNil) pNil (between_ok N hB (Nat.zero_le _) F List.mem_cons_self hl (in_rng _) rl))
    (ne_refl (cm_pr (n := 38) (p := (nm names (lft (rng names.length) g), nm names (rgt (rng names.length) g))) (N.ok _ (nm_mem (in_rng _ _ (lft_ok F List.mem_cons_self).2.1).1 (in_rng _ _ (lft_ok F List.mem_cons_self).2.1).2)) (N.ok _ (nm_mem (in_rng _ _ (rgt_ok F List.mem_cons_self).2.1).1 (in_rng _ _ (rgt_ok F List.mem_cons_self).2.1).2))).cmp))) m8 ⟨A, B⟩
  have A9 := A.app ν9
  have B9 := B.app ν9
  obtain ⟨ν10, p10⟩ := play_ok N F hl (in_rng _) rl (Nat.zero_le _) hij hik hjk _ A9
  let m10 : Mem := (((m8 ++ ν9).set k (some (.lst (([] ++ [(g, nm names (fall names vds (rng names.length) g).1, nm names (fall names vds (rng names.length) g).2)]).map hD)))).set j (some (iD ((rng names.length).erase (fall names vds (rng names.length) g).2)))) ++ ν10
  have A10 : StIn m10 i j k names vds ((rng names.length).erase (fall names vds (rng names.length) g).2) ([] ++ [(g, nm names (fall names vds (rng names.length) g).1, nm names (fall names vds (rng names.length) g).2)]) :=
    ⟨one_ext ν10 (set_ne (set_ne A9.ins (Ne.symm hik)) (Ne.symm hij)), one_ext ν10 (set_eq (by rw [List.length_set]; exact lt_of_some A9.st)), one_ext ν10 (set_ne (set_eq (lt_of_some A9.pl)) hjk)⟩
  have keepB : ∀ q, q ≠ j → q ≠ k → q < (m8 ++ ν9).length → m10[q]? = (m8 ++ ν9)[q]? := fun q h1 h2 h3 => by
    show (_ ++ ν10)[q]? = _
    rw [List.getElem?_append_left (by rw [List.length_set, List.length_set]; exact h3), List.getElem?_set_ne (Ne.symm h1), List.getElem?_set_ne (Ne.symm h2)]
  have B10 : StIn m10 i' j' k' names vds (rng names.length) [] := B9.keep fun q hq hh => keepB q (by rcases hh with e | e | e <;> omega) (by rcases hh with e | e | e <;> omega) hq
  obtain ⟨ν11, p11⟩ := play_ok N F hl (in_rng _) rl (Nat.zero_le _) hij' hik' hjk' _ B10
  let m11 : Mem := ((m10.set k' (some (.lst (([] ++ [(g, nm names (fall names vds (rng names.length) g).1, nm names (fall names vds (rng names.length) g).2)]).map hD)))).set j' (some (iD ((rng names.length).erase (fall names vds (rng names.length) g).2)))) ++ ν11
  have B11 : StIn m11 i' j' k' names vds ((rng names.length).erase (fall names vds (rng names.length) g).2) ([] ++ [(g, nm names (fall names vds (rng names.length) g).1, nm names (fall names vds (rng names.length) g).2)]) :=
    ⟨one_ext ν11 (set_ne (set_ne B10.ins (Ne.symm hik')) (Ne.symm hij')), one_ext ν11 (set_eq (by rw [List.length_set]; exact lt_of_some B10.st)), one_ext ν11 (set_ne (set_eq (lt_of_some B10.pl)) hjk')⟩
  have keepA : ∀ q, q ≠ j' → q ≠ k' → q < m10.length → m11[q]? = m10[q]? := fun q h1 h2 h3 => by
    show (_ ++ ν11)[q]? = _
    rw [List.getElem?_append_left (by rw [List.length_set, List.length_set]; exact h3), List.getElem?_set_ne (Ne.symm h1), List.getElem?_set_ne (Ne.symm h2)]
  have A11 : StIn m11 i j k names vds ((rng names.length).erase (fall names vds (rng names.length) g).2) ([] ++ [(g, nm names (fall names vds (rng names.length) g).1, nm names (fall names vds (rng names.length) g).2)]) := A10.keep fun q hq hh => keepA q (by rcases hh with e | e | e <;> omega) (by rcases hh with e | e | e <;> omega) hq
  have gi : ∀ m, mCons (mBin dIdx (mVar 1) (mC (.int 0))) mNil E1 m = .ok [dI g] m := fun m => by
    have ho' : iD ord = .lst (dI g :: rest.map dI) := by rw [ho]; rfl
    show mCons (mBin dIdx (mVar 1) (mC (.int 0))) mNil [some (rowD names vds), some (iD ord), some (.cel i), some (.cel i')] m = _
    rw [ho']
    have : dIdx (.lst (dI g :: rest.map dI)) (.int 0) m = .ok (dI g) m := by
      obtain ⟨ν, e⟩ := (idx_int (S := PU.top) (x := .lst (dI g :: rest.map dI)) (l := dI g :: rest.map dI) (i := 0) (d := dI g) ls_lst (by decide) rfl) m trivial
      have q : dIdx (.lst (dI g :: rest.map dI)) (.int 0) m = (match atD (dI g :: rest.map dI) 0 with
        | some d => .ok d m
        | none => .no) := rfl
      rw [q]
      have : atD (dI g :: rest.map dI) 0 = some (dI g) := by
        unfold atD L2.ixN
        rw [if_pos (Int.le_refl 0), if_pos (by rw [List.length_cons]; omega)]
        rfl
      rw [this]
    exact cons_at (bin_at rfl rfl this) rfl
  have P1 : mMthG "Stand" "play" 0 1 (gPerm [(false, 0), (true, 0)]) f_Stand_play (mVar 2) mNil (mCons (mBin dIdx (mVar 1) (mC (.int 0))) mNil) E1 (m8 ++ ν9) = .ok (dS (nm names (fall names vds (rng names.length) g).2)) m10 :=
    (mth_at (ds := []) (es := [dI g]) rfl (Has.insOf (S := stK i j k names vds (rng names.length) []) (fun _ h => h) _ A9) (lk_st (by decide) (by decide) (by decide)) rfl (gi _)).trans p10
  have P2 : mMthG "Stand" "play" 1 0 gPos f_Stand_play (mVar 3) (mCons (mBin dIdx (mVar 1) (mC (.int 0))) mNil) mNil E1 m10 = .ok (dS (nm names (fall names vds (rng names.length) g).2)) m11 :=
    (mth_at (ds := [dI g]) (es := []) rfl (Has.insOf (S := stK i' j' k' names vds (rng names.length) []) (fun _ h => h) _ B10) (lk_st (by decide) (by decide) (by decide)) (gi _) rfl).trans p11
  have P3 : dNeA (dS (nm names (fall names vds (rng names.length) g).2)) (dS (nm names (fall names vds (rng names.length) g).2)) m11 = .ok (.bl false) m11 := by
    show Rs.ok (D.bl (!decide (nm names (fall names vds (rng names.length) g).2 = nm names (fall names vds (rng names.length) g).2))) m11 = _
    rw [decide_eq_true rfl]
    rfl
  have q5 : sIf (bOr (bVal (mBin dNeA (mMthG "Stand" "between" 0 1 (gPerm [(false, 0), (true, 0)]) f_Stand_between (mVar 2) mNil (mCons (mBin dIdx (mVar 1) (mC (.int 0))) mNil)) (mMthG "Stand" "between" 1 0 gPos f_Stand_between (mVar 3) (mCons (mBin dIdx (mVar 1) (mC (.int 0))) mNil) mNil))) (bVal (mBin dNeA (mMthG "Stand" "play" 0 1 (gPerm [(false, 0), (true, 0)]) f_Stand_play (mVar 2) mNil (mCons (mBin dIdx (mVar 1) (mC (.int 0))) mNil)) (mMthG "Stand" "play" 1 0 gPos f_Stand_play (mVar 3) (mCons (mBin dIdx (mVar 1) (mC (.int 0))) mNil) mNil)))) (sRet (mC (.bl false))) sNx E1 m8 = .nx E1 m11 :=
    if_at (or_at e9 (val_at (bin_at P1 P2 P3)))
  obtain ⟨m12, e12, _⟩ := same_at (neg := false) N A11 B11 (by simp)
  refine ⟨m12, ?_⟩
  have body : b__law_plays_right E0 μ = .rt (.bl true) m12 := by
    unfold b__law_plays_right
    rw [seq_at q1, seq_at q2, seq_at q3, seq_at q4, seq_at q5]
    exact ret_at (bin_at rfl rfl e12)
  exact fn_at (n := 2) (N := 4) body rfl
end
end Gk12

set_option maxHeartbeats 0
namespace Gk12
open PySem CL PU
def ten : List Str := ["pax", "pbx", "pcx", "pdx", "pex", "pfx", "pgx", "phx", "pix", "pjx"]
def nms (n : Int) : List Str := (ten.take n.toNat).reverse
theorem ten_nm : ∀ s ∈ ten, ∀ μ, f_is_name [.str s] μ = .ok (.bl true) μ := by
  intro s hs μ
  unfold ten at hs
  simp only [List.mem_cons, List.not_mem_nil, or_false] at hs
  rcases hs with h | h | h | h | h | h | h | h | h | h <;> (subst h; kernel_rfl)
theorem ten_ok : NOk ten := ⟨by decide +kernel, by decide +kernel, by decide +kernel, by decide +kernel, ten_nm, by decide +kernel⟩
theorem nms_ok {n : Int} (h0 : 2 ≤ n) (h1 : n ≤ 9) : NOk (nms n) := by
  have sub : (ten.take n.toNat).Sublist ten := List.take_sublist _ _
  have ne : ten.take n.toNat ≠ [] := fun z => by
    have := congrArg List.length z
    rw [List.length_take] at this
    have e : ten.length = 10 := rfl
    rw [e, List.length_nil] at this
    omega
  exact names_rev (lot_names ten_ok sub ne)
theorem nms_len {n : Int} (h0 : 2 ≤ n) (h1 : n ≤ 9) : ((nms n).length : Int) = n := by
  unfold nms
  rw [List.length_reverse, List.length_take]
  have e : ten.length = 10 := rfl
  rw [e]
  omega
def someE : ME := (mUn (dRev kFz) (mComp kFz (CL.iRng1 (mCons (mVar 3) mNil)) (tgName 9) bYes (mBin (dAddK kFz) (mBin (dAddK kFz) (mC (.str "p")) (mBin dIdx (mC (.str "abcdefghij")) (mVar 9))) (mC (.str "x"))) [9]))
theorem some_ok {n : Int} (h0 : 2 ≤ n) (h1 : n ≤ 9) (x0 x1 x2 x4 x5 x6 x7 x8 x9 x10 : Option D) (μ : Mem) : someE [x0, x1, x2, some (dI n), x4, x5, x6, x7, x8, x9, x10] μ = .ok (nmD (nms n)) μ := by
  have : n = 2 ∨ n = 3 ∨ n = 4 ∨ n = 5 ∨ n = 6 ∨ n = 7 ∨ n = 8 ∨ n = 9 := by omega
  rcases this with h | h | h | h | h | h | h | h <;> (subst h; kernel_rfl)
theorem compM_gen {α : Type} {xs0 : List D} {put : D → CL.Env → Option CL.Env} {te : ME} {env : CL.Env} {g : α → D} (I : List α → List D → Mem → Prop) (hs : ∀ a rest acc μ, I (a :: rest) acc μ → ∃ env1 y μ2, put (g a) env = some env1 ∧ te env1 μ = .ok y μ2 ∧ I rest (acc ++ [y]) μ2) :
    ∀ (l : List α) (acc : List D) (μ : Mem), I l acc μ → ∃ ys μ', compM ⟨xs0, none⟩ put bYes te env (l.map g) μ = .ok ys μ' ∧ I [] (acc ++ ys) μ'
  | [], acc, μ, h => ⟨[], μ, rfl, by rw [List.append_nil]; exact h⟩
  | a :: l, acc, μ, h => by
    obtain ⟨env1, y, μ2, e1, e2, h2⟩ := hs a l acc μ h
    obtain ⟨ys, μ', e3, h3⟩ := compM_gen (xs0 := xs0) I hs l (acc ++ [y]) μ2 h2
    refine ⟨y :: ys, μ', ?_, by rw [List.append_assoc] at h3; exact h3⟩
    show (match put (g a) env with
      | none => Rs.no
      | some env1 => (te env1 μ).bindN fun x μ2 => (compM ⟨xs0, none⟩ put bYes te env (l.map g) μ2).bindN fun xs μ3 => Rs.ok (x :: xs) μ3) = _
    rw [e1]
    show ((te env1 μ).bindN fun x μ2 => (compM ⟨xs0, none⟩ put bYes te env (l.map g) μ2).bindN fun xs μ3 => Rs.ok (x :: xs) μ3) = _
    rw [e2]
    show ((compM ⟨xs0, none⟩ put bYes te env (l.map g) μ2).bindN fun xs μ3 => Rs.ok (y :: xs) μ3) = _
    rw [e3]
    rfl
def waysE : ME := (mComp kFz (CL.iRng1 (mCons (mBin dSub (mVar 3) (mC (.int 1))) mNil)) (tgName 10) bYes (mMeth "list" gPopAt (mVar 6) (mCons (mCallG 2 0 gPos f__law_take (mCons (mVar 2) (mCons (mCall dLen (mCons (mVar 6) mNil)) mNil)) mNil) mNil)) [10])
theorem erase_map {α β : Type} (f : α → β) : ∀ (l : List α) (i : Nat), (l.map f).eraseIdx i = (l.eraseIdx i).map f
  | [], _ => rfl
  | a :: l, 0 => rfl
  | a :: l, i + 1 => by
    show f a :: (l.map f).eraseIdx i = f a :: (l.eraseIdx i).map f
    rw [erase_map f l i]
theorem erase_perm {α : Type} : ∀ (l : List α) (i : Nat) (h : i < l.length), (l[i] :: l.eraseIdx i).Perm l
  | a :: l, 0, _ => .refl _
  | a :: l, i + 1, h => by
    have hi : i < l.length := by simpa using h
    show (l[i]'hi :: a :: l.eraseIdx i).Perm (a :: l)
    exact (List.Perm.swap a (l[i]'hi) _).trans ((erase_perm l i hi).cons a)
theorem popAt_at {o : ME} {ml : ML} {env : CL.Env} {i : Nat} {l : List Int} {r : Int} {y : Int} {μ μ2 : Mem} (ho : o env μ = .ok (.cel i) μ) (he : ml env μ = .ok [dI r] μ2) (h : μ[i]? = some (some (iD l))) (h2 : μ2[i]? = some (some (iD l))) (h0 : 0 ≤ r) (h1 : r < 2 ^ 62) (hy : l[r.toNat]? = some y) :
    mMeth "list" gPopAt o ml env μ = .ok (dI y) (μ2.set i (some (iD (l.eraseIdx r.toNat)))) := by
  unfold mMeth
  rw [ho]
  show (if tyOf "list" μ (.cel i) = true then ((ml env μ).bind fun ds => gPopAt (.cel i) ds) else .no) = _
  rw [if_pos (show tyOf "list" μ (.cel i) = true by
    unfold tyOf lstOf
    dsimp only
    rw [h]
    rfl), he]
  show gPopAt (.cel i) [dI r] μ2 = _
  unfold gPopAt celL
  dsimp only
  rw [h2]
  dsimp only
  rw [if_pos ⟨h0, h1⟩, List.getElem?_map, hy]
  show Rs.ok (dI y) _ = _
  rw [erase_map]
theorem ways_ok {p q m : Nat} (hm : m ≤ 100) (hqp : q ≠ p) {x0 x1 x4 x5 x7 x8 x9 x10 : Option D} (μ : Mem) (po : PoolAt μ p) (hq : μ[q]? = some (some (iD (rng m)))) :
    ∃ ord μ', waysE [x0, x1, some (.cel p), some (dI ((m : Int) + 1)), x4, x5, some (.cel q), x7, x8, x9, x10] μ = .ok (iD ord) μ' ∧ ord.Perm (rng m) := by
  let E : CL.Env := [x0, x1, some (.cel p), some (dI ((m : Int) + 1)), x4, x5, some (.cel q), x7, x8, x9, none]
  let I : List Int → List D → Mem → Prop := fun rest acc μ' => ∃ lf ac, acc = ac.map dI ∧ PoolAt μ' p ∧ μ'[q]? = some (some (iD lf)) ∧ lf.length = rest.length ∧ lf.length ≤ 100 ∧ (ac ++ lf).Perm (rng m)
  have lrng : (rng m).length = m := by unfold rng; rw [List.length_map, List.length_range]
  obtain ⟨ys, μ', e, lf, ac, ea, _, _, l0, _, pm⟩ := compM_gen (xs0 := (rng m).map dI) (put := (tgName 10).put) (te := mMeth "list" gPopAt (mVar 6) (mCons (mCallG 2 0 gPos f__law_take (mCons (mVar 2) (mCons (mCall dLen (mCons (mVar 6) mNil)) mNil)) mNil) mNil)) (env := E) (g := dI) I (fun a rest acc μ' hI => by
    obtain ⟨lf, ac, rfl, po, hq, ll, l100, pm⟩ := hI
    rw [List.length_cons] at ll
    obtain ⟨r, μ2, et, g, po2, r0, r1⟩ := take_ok (p := p) (m := (lf.length : Nat)) (by omega) (by omega) μ' po
    have q2 : μ2[q]? = some (some (iD lf)) := by rw [g.same q (lt_of_some hq) hqp]; exact hq
    have hr : r.toNat < lf.length := by omega
    have em : mCons (mCallG 2 0 gPos f__law_take (mCons (mVar 2) (mCons (mCall dLen (mCons (mVar 6) mNil)) mNil)) mNil) mNil [x0, x1, some (.cel p), some (dI ((m : Int) + 1)), x4, x5, some (.cel q), x7, x8, x9, some (dI a)] μ' = .ok [dI r] μ2 := by
      have el : mCall dLen (mCons (mVar 6) mNil) [x0, x1, some (.cel p), some (dI ((m : Int) + 1)), x4, x5, some (.cel q), x7, x8, x9, some (dI a)] μ' = .ok (dI (lf.length : Nat)) μ' := by
        show dLen [.cel q] μ' = _
        unfold dLen lstOf
        dsimp only
        rw [hq]
        dsimp only
        rw [List.length_map]
      have ec : mCallG 2 0 gPos f__law_take (mCons (mVar 2) (mCons (mCall dLen (mCons (mVar 6) mNil)) mNil)) mNil [x0, x1, some (.cel p), some (dI ((m : Int) + 1)), x4, x5, some (.cel q), x7, x8, x9, some (dI a)] μ' = f__law_take [.cel p, dI (lf.length : Nat)] μ' := by
        unfold mCallG mArgs
        rw [cons_at (x := .cel p) (xs := [dI (lf.length : Nat)]) (μ1 := μ') rfl (cons_at el rfl)]
        rfl
      exact cons_at (ec.trans et) rfl
    refine ⟨[x0, x1, some (.cel p), some (dI ((m : Int) + 1)), x4, x5, some (.cel q), x7, x8, x9, some (dI a)], dI lf[r.toNat], μ2.set q (some (iD (lf.eraseIdx r.toNat))), rfl, popAt_at rfl em hq q2 r0 (by omega) (List.getElem?_eq_getElem hr), lf.eraseIdx r.toNat, ac ++ [lf[r.toNat]], by rw [List.map_append]; rfl, po2.set_ne hqp, set_eq (lt_of_some q2), by rw [List.length_eraseIdx_of_lt hr]; omega, by rw [List.length_eraseIdx_of_lt hr]; omega, ?_⟩
    rw [List.append_assoc]
    exact (List.Perm.append_left ac (erase_perm lf r.toNat hr)).trans pm)
    (rng m) [] μ ⟨rng m, [], rfl, po, hq, rfl, by omega, by rw [List.nil_append]⟩
  have lf0 : lf = [] := List.eq_nil_of_length_eq_zero l0
  subst lf0
  rw [List.append_nil] at pm
  rw [List.nil_append] at ea
  subst ea
  refine ⟨ac, μ', ?_, pm⟩
  have ei : CL.iRng1 (mCons (mBin dSub (mVar 3) (mC (.int 1))) mNil) [x0, x1, some (.cel p), some (dI ((m : Int) + 1)), x4, x5, some (.cel q), x7, x8, x9, x10] μ = .ok ⟨(rng m).map dI, none⟩ μ := by
    have q1 : CL.iRng1 (mCons (mBin dSub (mVar 3) (mC (.int 1))) mNil) [x0, x1, some (.cel p), some (dI ((m : Int) + 1)), x4, x5, some (.cel q), x7, x8, x9, x10] μ = (if big62 ((m : Int) + 1 - 1) = true then .ok ⟨rangeL 0 ((m : Int) + 1 - 1), none⟩ μ else .no) := rfl
    rw [q1, show (m : Int) + 1 - 1 = (m : Int) by omega, if_pos (by unfold big62; exact decide_eq_true ⟨by omega, by omega⟩), rng_D]
  unfold waysE mComp
  rw [ei]
  show (if ((rng m).map dI).length ≤ lim then (compM ⟨(rng m).map dI, none⟩ (tgName 10).put bYes _ E ((rng m).map dI) μ).bindN kFz else .no) = _
  rw [if_pos (by rw [List.length_map, lrng]; exact lim_of (by omega)), e]
  rfl
theorem ord_of {m : Nat} {ord : List Int} (h : ord.Perm (rng m)) : OrdOk (m : Int) ord := by
  have lrng : (rng m).length = m := by unfold rng; rw [List.length_map, List.length_range]
  have nd : (rng m).Nodup := by
    have := (List.Pairwise.map (S := fun a b : Int => a < b) (fun i : Nat => (i : Int)) (fun a b h => by omega) (List.pairwise_lt_range (n := m)))
    exact this.imp fun h => Int.ne_of_lt h
  exact ⟨h.nodup_iff.mpr nd, fun g hg => in_rng m g (h.mem_iff.mp hg), by rw [h.length_eq, lrng]⟩
def body : MS := (sSeq (sAsg (mCallG 2 0 gPos f__law_pool (mCons (mVar 0) (mCons (mVar 1) mNil)) mNil) (tgName 2)) (sSeq (sAsg (mBin (dAddK kFz) (mC (.int 2)) (mCallG 2 0 gPos f__law_take (mCons (mVar 2) (mCons (mC (.int 8)) mNil)) mNil)) (tgName 3)) (sSeq (sAsg someE (tgName 4)) (sSeq (sAsg (mCallG 2 0 gPos f__law_won (mCons (mVar 2) (mCons (mVar 4) mNil)) mNil) (tgName 5)) (sSeq (sAsg (mCall (dLrg kCe) (mCons (mBin dSub (mVar 3) (mC (.int 1))) mNil)) (tgName 6)) (sSeq (sAsg waysE (tgName 7)) (sSeq (sAsg (mFrz (mNewG "Row" 2 0 gPos f_Row___init__ (mCons (mVar 4) (mCons (mVar 5) mNil)) mNil)) (tgName 8)) (sIf (bOr (bNot (bVal (mCallG 3 0 gPos f__law_rows_right (mCons (mVar 8) (mCons (mVar 4) (mCons (mVar 5) mNil))) mNil))) (bNot (bVal (mCallG 2 0 gPos f__law_plays_right (mCons (mVar 8) (mCons (mVar 7) mNil)) mNil)))) (sRet (mC (.bl false))) sNx))))))))
def rngI : MI := (CL.iRng1 (mCons (mCall (dMMx maxI maxS) (mCons (mC (.int 1)) (mCons (mCall (dMMx minI minS) (mCons (mCall dLen (mCons (mVar 0) mNil)) (mCons (mC (.int 4)) mNil))) mNil))) mNil))
theorem law_eq : b_law = sSeq (sFor rngI (tgName 1) body) (sRet (mC (.bl true))) := rfl
theorem callG_at {n l : Nat} {gD : List D → List D → List D} {f : List D → M D} {ml mk : ML} {env : CL.Env} {ds es : List D} {μ μ1 : Mem} {r : Rs D} (e1 : ml env μ = .ok ds μ) (e2 : mk env μ = .ok es μ) (h : f (gD ds es) μ = r) (hl : ds.length = n := by rfl) (hl2 : es.length = l := by rfl) : mCallG n l gD f ml mk env μ = r := by
  unfold mCallG mArgs
  rw [e1]
  show ((mk env μ).bind fun es => withLen n l gD f ds es) = _
  rw [e2]
  show withLen n l gD f ds es μ = _
  unfold withLen
  rw [if_pos ⟨hl, hl2⟩]
  exact h
theorem body_ok (ns : List Int) (hl : ns.length ≤ 63) (hb : ∀ z ∈ ns, Builtin.Int.intBits z ≤ 1048576) {k : Int} (k0 : 0 ≤ k) (k1 : k ≤ 100) (x2 x3 x4 x5 x6 x7 x8 x9 x10 : Option D) (μ : Mem) :
    ∃ y2 y3 y4 y5 y6 y7 y8 y9 y10 μ', body [some (scriptD ns), some (dI k), x2, x3, x4, x5, x6, x7, x8, x9, x10] μ = .nx [some (scriptD ns), some (dI k), y2, y3, y4, y5, y6, y7, y8, y9, y10] μ' := by
  obtain ⟨p, m1, e1, g1, p1, po1⟩ := pool_ok ns hl hb k0 k1 μ
  obtain ⟨r, m2, e2, g2, po2, r0, r1⟩ := take_ok (p := p) (m := 8) (by decide) (by decide) m1 po1
  have p2 : p < m2.length := Nat.lt_of_lt_of_le p1 g2.len
  have N := nms_ok (n := 2 + r) (by omega) (by omega)
  have nl := nms_len (n := 2 + r) (by omega) (by omega)
  obtain ⟨vds, m3, e3, g3, po3, sw⟩ := won_ok N m2 po2 p2
  have p3 : p < m3.length := Nat.lt_of_lt_of_le p2 g3.len
  obtain ⟨m, hm⟩ : ∃ m : Nat, ((m : Nat) : Int) + 1 = 2 + r := ⟨(1 + r).toNat, by omega⟩
  have m0 : 1 ≤ m := by omega
  have e4 : dLrg kCe [.int (m : Nat)] m3 = .ok (.cel m3.length) (m3 ++ [some (iD (rng m))]) := lrg_ok (by omega) m3
  obtain ⟨ord, m5, e5, pm⟩ := ways_ok (p := p) (q := m3.length) (m := m) (by omega) (by omega) (x0 := some (scriptD ns)) (x1 := some (dI k)) (x4 := some (nmD (nms (2 + r)))) (x5 := some (vdD vds)) (x7 := x7) (x8 := x8) (x9 := x9) (x10 := x10) (m3 ++ [some (iD (rng m))]) (po3.gr ⟨_, rfl⟩) (by rw [List.getElem?_append_right (Nat.le_refl _), Nat.sub_self]; rfl)
  have O : OrdOk (((nms (2 + r)).length : Int) - 1) ord := by
    have := ord_of pm
    rwa [show ((m : Nat) : Int) = ((nms (2 + r)).length : Int) - 1 by omega] at this
  have V := sw_vds N sw
  let E7 : CL.Env := [some (scriptD ns), some (dI k), some (.cel p), some (dI (2 + r)), some (nmD (nms (2 + r))), some (vdD vds), some (.cel m3.length), some (iD ord), x8, x9, x10]
  obtain ⟨ν6, e6⟩ := row_new (S := PU.top) (n := 2) (m := 0) (gD := gPos) (ml := mCons (mVar 4) (mCons (mVar 5) mNil)) (mk := mNil) (env := E7) (ds := [nmD (nms (2 + r)), vdD vds]) (es := []) N V (pCons (pVar rfl) (pCons (pVar rfl) pNil)) pNil (fun _ => rfl) rfl rfl m5 trivial
  let E8 : CL.Env := [some (scriptD ns), some (dI k), some (.cel p), some (dI (2 + r)), some (nmD (nms (2 + r))), some (vdD vds), some (.cel m3.length), some (iD ord), some (rowD (nms (2 + r)) vds), x9, x10]
  obtain ⟨x, y, t, hn⟩ : ∃ x y t, nms (2 + r) = x :: y :: t := by
    cases h : nms (2 + r) with
    | nil => rw [h, List.length_nil] at nl; omega
    | cons x l =>
      cases l with
      | nil => rw [h, List.length_singleton] at nl; omega
      | cons y t => exact ⟨x, y, t, rfl⟩
  have R : Pu PU.top (f__law_rows_right [rowD (nms (2 + r)) vds, nmD (nms (2 + r)), vdD vds]) (.bl true) := by
    rw [hn] at N sw ⊢
    exact rowsRight_ok N sw
  obtain ⟨ν7, e7⟩ := R (m5 ++ ν6) trivial
  obtain ⟨g, rest, ho⟩ : ∃ g rest, ord = g :: rest := by
    have := O.len
    cases h : ord with
    | nil => rw [h, List.length_nil] at this; omega
    | cons g rest => exact ⟨g, rest, rfl⟩
  obtain ⟨m8, e8⟩ := playsRight_ok (vds := vds) N O ho (by omega) (m5 ++ ν6 ++ ν7)
  refine ⟨some (.cel p), some (dI (2 + r)), some (nmD (nms (2 + r))), some (vdD vds), some (.cel m3.length), some (iD ord), some (rowD (nms (2 + r)) vds), x9, x10, m8, ?_⟩
  unfold body
  have q4 : mCall (dLrg kCe) (mCons (mBin dSub (mVar 3) (mC (.int 1))) mNil) [some (scriptD ns), some (dI k), some (.cel p), some (dI (2 + r)), some (nmD (nms (2 + r))), some (vdD vds), x6, x7, x8, x9, x10] m3 = .ok (.cel m3.length) (m3 ++ [some (iD (rng m))]) := by
    have q : ∀ f : List D → M D, mCall f (mCons (mBin dSub (mVar 3) (mC (.int 1))) mNil) [some (scriptD ns), some (dI k), some (.cel p), some (dI (2 + r)), some (nmD (nms (2 + r))), some (vdD vds), x6, x7, x8, x9, x10] m3 = f [.int (2 + r - 1)] m3 := fun _ => rfl
    rw [q, show (2 : Int) + r - 1 = (m : Nat) by omega]
    exact e4
  have q2 : mBin (dAddK kFz) (mC (.int 2)) (mCallG 2 0 gPos f__law_take (mCons (mVar 2) (mCons (mC (.int 8)) mNil)) mNil) [some (scriptD ns), some (dI k), some (.cel p), x3, x4, x5, x6, x7, x8, x9, x10] m1 = .ok (dI (2 + r)) m2 :=
    bin_at rfl (callG_at (μ1 := m1) rfl rfl e2) rfl
  rw [hm] at e5
  rw [seq_at (asg_at (env1 := [some (scriptD ns), some (dI k), some (.cel p), x3, x4, x5, x6, x7, x8, x9, x10]) (callG_at (μ1 := μ) rfl rfl e1) rfl),
    seq_at (asg_at (env1 := [some (scriptD ns), some (dI k), some (.cel p), some (dI (2 + r)), x4, x5, x6, x7, x8, x9, x10]) q2 rfl),
    seq_at (asg_at (env1 := [some (scriptD ns), some (dI k), some (.cel p), some (dI (2 + r)), some (nmD (nms (2 + r))), x5, x6, x7, x8, x9, x10]) (some_ok (n := 2 + r) (by omega) (by omega) _ _ _ _ _ _ _ _ _ _ m2) rfl),
    seq_at (asg_at (env1 := [some (scriptD ns), some (dI k), some (.cel p), some (dI (2 + r)), some (nmD (nms (2 + r))), some (vdD vds), x6, x7, x8, x9, x10]) (callG_at (μ1 := m2) rfl rfl e3) rfl),
    seq_at (asg_at (env1 := [some (scriptD ns), some (dI k), some (.cel p), some (dI (2 + r)), some (nmD (nms (2 + r))), some (vdD vds), some (.cel m3.length), x7, x8, x9, x10]) q4 rfl),
    seq_at (asg_at (env1 := E7) e5 rfl), seq_at (asg_at (env1 := E8) e6 rfl)]
  refine if_at (or_at (k := false) (μ1 := m5 ++ ν6 ++ ν7) ?_ ?_)
  · have v : bVal (mCallG 3 0 gPos f__law_rows_right (mCons (mVar 8) (mCons (mVar 4) (mCons (mVar 5) mNil))) mNil) E8 (m5 ++ ν6) = .ok true (m5 ++ ν6 ++ ν7) := val_at (callG_at (μ1 := m5) rfl rfl e7)
    unfold bNot
    rw [v]
    rfl
  · have v : bVal (mCallG 2 0 gPos f__law_plays_right (mCons (mVar 8) (mCons (mVar 7) mNil)) mNil) E8 (m5 ++ ν6 ++ ν7) = .ok true m8 := val_at (callG_at (μ1 := m5) rfl rfl e8)
    unfold bNot
    rw [v]
    rfl
def mx (L : Int) : Int := maxI 1 (minI L 4)
theorem mx_le (L : Int) : 0 ≤ mx L ∧ mx L ≤ 4 := by
  unfold mx maxI minI
  split <;> split <;> omega
theorem rng_ok (ds : List D) (μ : Mem) (x1 x2 x3 x4 x5 x6 x7 x8 x9 x10 : Option D) : rngI [some (.lst ds), x1, x2, x3, x4, x5, x6, x7, x8, x9, x10] μ = .ok ⟨rangeL 0 (mx ds.length), none⟩ μ := by
  have e : rngI [some (.lst ds), x1, x2, x3, x4, x5, x6, x7, x8, x9, x10] μ = (if big62 (mx ds.length) = true then .ok ⟨rangeL 0 (mx ds.length), none⟩ μ else .no) := rfl
  have := mx_le ds.length
  rw [e, if_pos]
  unfold big62
  exact decide_eq_true ⟨by omega, by omega⟩
theorem plain (ns : List Int) (hl : ns.length ≤ 63) (hb : ∀ z ∈ ns, Builtin.Int.intBits z ≤ 1048576) : ∃ μ, f_law [scriptD ns] [] = .ok (.bl true) μ := by
  let I : List Nat → CL.Env → Mem → Prop := fun rest env _ => (∀ i ∈ rest, i ≤ 100) ∧ ∃ x1 x2 x3 x4 x5 x6 x7 x8 x9 x10, env = [some (scriptD ns), x1, x2, x3, x4, x5, x6, x7, x8, x9, x10]
  have mxl := mx_le (ns.map D.int).length
  obtain ⟨env', μ', q, _, x1, x2, x3, x4, x5, x6, x7, x8, x9, x10, rfl⟩ := loop_gen (xs0 := rangeL 0 (mx (ns.map D.int).length)) (put := (tgName 1).put) (body := body) (g := fun i : Nat => D.int (0 + (i : Nat))) I (fun i rest env μ hI => by
    obtain ⟨h1, x1, x2, x3, x4, x5, x6, x7, x8, x9, x10, rfl⟩ := hI
    have hi := h1 i List.mem_cons_self
    obtain ⟨y2, y3, y4, y5, y6, y7, y8, y9, y10, μ', e⟩ := body_ok ns hl hb (k := 0 + (i : Nat)) (by omega) (by omega) x2 x3 x4 x5 x6 x7 x8 x9 x10 μ
    exact ⟨_, _, μ', rfl, e, fun j hj => h1 j (.tail _ hj), _, _, _, _, _, _, _, _, _, _, rfl⟩)
    (List.range (mx (ns.map D.int).length - 0).toNat) [some (scriptD ns), none, none, none, none, none, none, none, none, none, none] [] ⟨fun i hi => by have := List.mem_range.mp hi; omega, _, _, _, _, _, _, _, _, _, _, rfl⟩
  refine ⟨μ', fn_at (n := 1) (N := 11) (b := b_law) ?_ rfl⟩
  rw [law_eq]
  exact (seq_at ((for_at (rng_ok (ns.map D.int) [] none none none none none none none none none none)).trans q)).trans rfl
end Gk12

set_option maxHeartbeats 0
namespace Gk12
open PySem L2 PySem.Spec PyProof.Rows CL
def D_is_name : He.DefD := ⟨("is_name", none), "is_name", "is_name", defArgs st_is_name, defBody st_is_name, defScope st_is_name, [], []⟩
def D_is_name_list : He.DefD := ⟨("is_name_list", none), "is_name_list", "is_name_list", defArgs st_is_name_list, defBody st_is_name_list, defScope st_is_name_list, [], []⟩
def D_is_pair : He.DefD := ⟨("is_pair", none), "is_pair", "is_pair", defArgs st_is_pair, defBody st_is_pair, defScope st_is_pair, [], []⟩
def D_is_pair_list : He.DefD := ⟨("is_pair_list", none), "is_pair_list", "is_pair_list", defArgs st_is_pair_list, defBody st_is_pair_list, defScope st_is_pair_list, [], []⟩
def D_Row___init__ : He.DefD := ⟨("Row", some "__init__"), "__init__", "Row.__init__", defArgs st_Row___init__, defBody st_Row___init__, defScope st_Row___init__, [], []⟩
def D_Row_players : He.DefD := ⟨("Row", some "players"), "players", "Row.players", defArgs st_Row_players, defBody st_Row_players, defScope st_Row_players, [], []⟩
def D_all_pairs : He.DefD := ⟨("all_pairs", none), "all_pairs", "all_pairs", defArgs st_all_pairs, defBody st_all_pairs, defScope st_all_pairs, [], []⟩
def D_Row_verdicts : He.DefD := ⟨("Row", some "verdicts"), "verdicts", "Row.verdicts", defArgs st_Row_verdicts, defBody st_Row_verdicts, defScope st_Row_verdicts, [], []⟩
def D_Row___eq__ : He.DefD := ⟨("Row", some "__eq__"), "__eq__", "Row.__eq__", defArgs st_Row___eq__, defBody st_Row___eq__, defScope st_Row___eq__, [], []⟩
def D_Row___len__ : He.DefD := ⟨("Row", some "__len__"), "__len__", "Row.__len__", defArgs st_Row___len__, defBody st_Row___len__, defScope st_Row___len__, [], []⟩
def D_Stand_gaps : He.DefD := ⟨("Stand", some "gaps"), "gaps", "Stand.gaps", defArgs st_Stand_gaps, defBody st_Stand_gaps, defScope st_Stand_gaps, [], []⟩
def D_Stand___eq__ : He.DefD := ⟨("Stand", some "__eq__"), "__eq__", "Stand.__eq__", defArgs st_Stand___eq__, defBody st_Stand___eq__, defScope st_Stand___eq__, [], []⟩
def D_Row_has : He.DefD := ⟨("Row", some "has"), "has", "Row.has", defArgs st_Row_has, defBody st_Row_has, defScope st_Row_has, [], []⟩
def D_Row_place : He.DefD := ⟨("Row", some "place"), "place", "Row.place", defArgs st_Row_place, defBody st_Row_place, defScope st_Row_place, [], []⟩
def D_Row_beats : He.DefD := ⟨("Row", some "beats"), "beats", "Row.beats", defArgs st_Row_beats, defBody st_Row_beats, defScope st_Row_beats, [], []⟩
def D_is_whole : He.DefD := ⟨("is_whole", none), "is_whole", "is_whole", defArgs st_is_whole, defBody st_is_whole, defScope st_is_whole, [], []⟩
def D_sides : He.DefD := ⟨("sides", none), "sides", "sides", defArgs st_sides, defBody st_sides, defScope st_sides, [], []⟩
def D_Stand_between : He.DefD := ⟨("Stand", some "between"), "between", "Stand.between", defArgs st_Stand_between, defBody st_Stand_between, defScope st_Stand_between, [], []⟩
def D_Stand_play : He.DefD := ⟨("Stand", some "play"), "play", "Stand.play", defArgs st_Stand_play, defBody st_Stand_play, defScope st_Stand_play, [], []⟩
def D_Stand___init__ : He.DefD := ⟨("Stand", some "__init__"), "__init__", "Stand.__init__", defArgs st_Stand___init__, defBody st_Stand___init__, defScope st_Stand___init__, [], [("played", .adr (kwdAt ("Stand", some "__init__") "played"))]⟩
def D_order_errors : He.DefD := ⟨("order_errors", none), "order_errors", "order_errors", defArgs st_order_errors, defBody st_order_errors, defScope st_order_errors, [], []⟩
def D_check_order : He.DefD := ⟨("check_order", none), "check_order", "check_order", defArgs st_check_order, defBody st_check_order, defScope st_check_order, [], []⟩
def D_history_of : He.DefD := ⟨("history_of", none), "history_of", "history_of", defArgs st_history_of, defBody st_history_of, defScope st_history_of, [], []⟩
def D_lots_of : He.DefD := ⟨("lots_of", none), "lots_of", "lots_of", defArgs st_lots_of, defBody st_lots_of, defScope st_lots_of, [], []⟩
def D_last_of : He.DefD := ⟨("last_of", none), "last_of", "last_of", defArgs st_last_of, defBody st_last_of, defScope st_last_of, [], []⟩
def D__law_plays_right : He.DefD := ⟨("_law_plays_right", none), "_law_plays_right", "_law_plays_right", defArgs st__law_plays_right, defBody st__law_plays_right, defScope st__law_plays_right, [], []⟩
def D__law_pool : He.DefD := ⟨("_law_pool", none), "_law_pool", "_law_pool", defArgs st__law_pool, defBody st__law_pool, defScope st__law_pool, [], []⟩
def D_Row_beaten : He.DefD := ⟨("Row", some "beaten"), "beaten", "Row.beaten", defArgs st_Row_beaten, defBody st_Row_beaten, defScope st_Row_beaten, [], []⟩
def D_Row_called : He.DefD := ⟨("Row", some "called"), "called", "Row.called", defArgs st_Row_called, defBody st_Row_called, defScope st_Row_called, [], []⟩
def D_is_lot : He.DefD := ⟨("is_lot", none), "is_lot", "is_lot", defArgs st_is_lot, defBody st_is_lot, defScope st_is_lot, [], []⟩
def D_Row_part : He.DefD := ⟨("Row", some "part"), "part", "Row.part", defArgs st_Row_part, defBody st_Row_part, defScope st_Row_part, [], []⟩
def D_Row_turned : He.DefD := ⟨("Row", some "turned"), "turned", "Row.turned", defArgs st_Row_turned, defBody st_Row_turned, defScope st_Row_turned, [], []⟩
def D__law_rows_right : He.DefD := ⟨("_law_rows_right", none), "_law_rows_right", "_law_rows_right", defArgs st__law_rows_right, defBody st__law_rows_right, defScope st__law_rows_right, [], []⟩
def D__law_take : He.DefD := ⟨("_law_take", none), "_law_take", "_law_take", defArgs st__law_take, defBody st__law_take, defScope st__law_take, [], []⟩
def D__law_won : He.DefD := ⟨("_law_won", none), "_law_won", "_law_won", defArgs st__law_won, defBody st__law_won, defScope st__law_won, [], []⟩
def D_law : He.DefD := ⟨("law", none), "law", "law", defArgs st_law, defBody st_law, defScope st_law, [], []⟩
def D_NoPlayers : He.DefD := ⟨("NoPlayers", some "__init__"), "__init__", "NoPlayers.__init__", defArgs st_NoPlayers, defBody st_NoPlayers, defScope st_NoPlayers, [], []⟩
def D_NoVerdicts : He.DefD := ⟨("NoVerdicts", some "__init__"), "__init__", "NoVerdicts.__init__", defArgs st_NoVerdicts, defBody st_NoVerdicts, defScope st_NoVerdicts, [], []⟩
def D_NoPairs : He.DefD := ⟨("NoPairs", some "__init__"), "__init__", "NoPairs.__init__", defArgs st_NoPairs, defBody st_NoPairs, defScope st_NoPairs, [], []⟩
def D_NoLot : He.DefD := ⟨("NoLot", some "__init__"), "__init__", "NoLot.__init__", defArgs st_NoLot, defBody st_NoLot, defScope st_NoLot, [], []⟩
def D_NoPlayer : He.DefD := ⟨("NoPlayer", some "__init__"), "__init__", "NoPlayer.__init__", defArgs st_NoPlayer, defBody st_NoPlayer, defScope st_NoPlayer, [], []⟩
def D_NoGap : He.DefD := ⟨("NoGap", some "__init__"), "__init__", "NoGap.__init__", defArgs st_NoGap, defBody st_NoGap, defScope st_NoGap, [], []⟩
def D_NoOrder : He.DefD := ⟨("NoOrder", some "__init__"), "__init__", "NoOrder.__init__", defArgs st_NoOrder, defBody st_NoOrder, defScope st_NoOrder, [], []⟩
def fn : List He.DefD := [D_is_name, D_is_name_list, D_is_pair, D_is_pair_list, D_Row___init__, D_Row_players, D_all_pairs, D_Row_verdicts, D_Row___eq__, D_Row___len__, D_Stand_gaps, D_Stand___eq__, D_Row_has, D_Row_place, D_Row_beats, D_is_whole, D_sides, D_Stand_between, D_Stand_play, D_Stand___init__, D_order_errors, D_check_order, D_history_of, D_lots_of, D_last_of, D__law_plays_right, D__law_pool, D_Row_beaten, D_Row_called, D_is_lot, D_Row_part, D_Row_turned, D__law_rows_right, D__law_take, D__law_won, D_law, D_NoPlayers, D_NoVerdicts, D_NoPairs, D_NoLot, D_NoPlayer, D_NoGap, D_NoOrder]
def fa : List He.Fa := [.free "abs", .free "all", .free "bool", .free "dict", .free "enumerate", .free "int", .free "isinstance", .free "len", .free "list", .free "max", .free "min", .free "range", .free "set", .free "sorted", .free "str", .free "tuple", .free "zip", .str "LETTERS" "abcdefghijklmnopqrstuvwxyz", .int "MOST" (24), .str "SIGNS" "abcdefghijklmnopqrstuvwxyz0123456789", .glo "is_name", .glo "is_name_list", .glo "is_pair", .glo "is_pair_list", .glo "all_pairs", .glo "is_whole", .glo "sides", .glo "order_errors", .glo "check_order", .glo "history_of", .glo "lots_of", .glo "last_of", .glo "_law_plays_right", .glo "_law_pool", .glo "is_lot", .glo "_law_rows_right", .glo "_law_take", .glo "_law_won", .glo "law"]
def loose : List PySem.Str := (["_wall", "NoPlayers", "NoVerdicts", "NoPairs", "NoLot", "NoPlayer", "NoGap", "NoOrder", "MOST", "LETTERS", "SIGNS", "is_name", "is_name_list", "is_pair", "is_pair_list", "all_pairs", "Row", "is_lot", "is_whole", "order_errors", "check_order", "sides", "history_of", "lots_of", "last_of", "Stand", "_law_pool", "_law_take", "_law_rows_right", "_law_plays_right"] : List PySem.Str) ++ (["_law_won"] : List PySem.Str)
abbrev ow : PySem.W.Frag → Bool := fun K => owA xrs bss krs K && owE ets K
abbrev R : PySem.W.OpenRow := PySem.W.OpenLaw.row PySem.Challenge.rw_lastinrow_k12_rows_and_plays_by_names
abbrev hk : PySem.W.Hook := hookX 6 fa fn ow
def ob (s : PySem.W.SharedT) : AlX := obsXG 6 fa fn ow (HandSHeadRun.getT s)
theorem ob_eq (s : PySem.W.SharedT) : ob s = hk.obs s.abs := obsXG_eq (HandSHeadRun.getT_eq s)
theorem run (w : World) : HandSHeadRun.RunEq R (PySem.W.view R.prog [37]) hk ob 6000 loose w := by
  intro os
  kernel_rfl
theorem facts {K : PySem.W.Frag} {h : Heap} {mg : Str → Option Value} (X : K.In h) (G : h.Ns mainGlobals mg) (hw : ow K = true) (c : He.SaysD fa fn K) : Fs K mg :=
  ⟨xfs_of X G (owA_x (Bool.and_eq_true_iff.mp hw).1), owA_k X G (Bool.and_eq_true_iff.mp hw).1, fun _ hp H Lv => owE_ok (Bool.and_eq_true_iff.mp hw).2 hp H Lv,
    He.free_ok X G (c.fact 0 (f := .free "abs") rfl),
    He.free_ok X G (c.fact 1 (f := .free "all") rfl),
    He.free_ok X G (c.fact 2 (f := .free "bool") rfl),
    He.free_ok X G (c.fact 3 (f := .free "dict") rfl),
    He.free_ok X G (c.fact 4 (f := .free "enumerate") rfl),
    He.free_ok X G (c.fact 5 (f := .free "int") rfl),
    He.free_ok X G (c.fact 6 (f := .free "isinstance") rfl),
    He.free_ok X G (c.fact 7 (f := .free "len") rfl),
    He.free_ok X G (c.fact 8 (f := .free "list") rfl),
    He.free_ok X G (c.fact 9 (f := .free "max") rfl),
    He.free_ok X G (c.fact 10 (f := .free "min") rfl),
    He.free_ok X G (c.fact 11 (f := .free "range") rfl),
    He.free_ok X G (c.fact 12 (f := .free "set") rfl),
    He.free_ok X G (c.fact 13 (f := .free "sorted") rfl),
    He.free_ok X G (c.fact 14 (f := .free "str") rfl),
    He.free_ok X G (c.fact 15 (f := .free "tuple") rfl),
    He.free_ok X G (c.fact 16 (f := .free "zip") rfl),
    He.str_ok X G (c.fact 17 (f := .str "LETTERS" "abcdefghijklmnopqrstuvwxyz") rfl),
    He.int_ok X G (c.fact 18 (f := .int "MOST" (24)) rfl),
    He.str_ok X G (c.fact 19 (f := .str "SIGNS" "abcdefghijklmnopqrstuvwxyz0123456789") rfl),
    c.def_ 0 (d := D_is_name) rfl,
    He.glo_ok X G (c.fact 20 (f := .glo "is_name") rfl),
    c.def_ 1 (d := D_is_name_list) rfl,
    He.glo_ok X G (c.fact 21 (f := .glo "is_name_list") rfl),
    c.def_ 2 (d := D_is_pair) rfl,
    He.glo_ok X G (c.fact 22 (f := .glo "is_pair") rfl),
    c.def_ 3 (d := D_is_pair_list) rfl,
    He.glo_ok X G (c.fact 23 (f := .glo "is_pair_list") rfl),
    c.def_ 4 (d := D_Row___init__) rfl,
    c.def_ 5 (d := D_Row_players) rfl,
    c.def_ 6 (d := D_all_pairs) rfl,
    He.glo_ok X G (c.fact 24 (f := .glo "all_pairs") rfl),
    c.def_ 7 (d := D_Row_verdicts) rfl,
    c.def_ 8 (d := D_Row___eq__) rfl,
    c.def_ 9 (d := D_Row___len__) rfl,
    c.def_ 10 (d := D_Stand_gaps) rfl,
    c.def_ 11 (d := D_Stand___eq__) rfl,
    c.def_ 12 (d := D_Row_has) rfl,
    c.def_ 13 (d := D_Row_place) rfl,
    c.def_ 14 (d := D_Row_beats) rfl,
    c.def_ 15 (d := D_is_whole) rfl,
    He.glo_ok X G (c.fact 25 (f := .glo "is_whole") rfl),
    c.def_ 16 (d := D_sides) rfl,
    He.glo_ok X G (c.fact 26 (f := .glo "sides") rfl),
    c.def_ 17 (d := D_Stand_between) rfl,
    c.def_ 18 (d := D_Stand_play) rfl,
    c.def_ 19 (d := D_Stand___init__) rfl,
    c.def_ 20 (d := D_order_errors) rfl,
    He.glo_ok X G (c.fact 27 (f := .glo "order_errors") rfl),
    c.def_ 21 (d := D_check_order) rfl,
    He.glo_ok X G (c.fact 28 (f := .glo "check_order") rfl),
    c.def_ 22 (d := D_history_of) rfl,
    He.glo_ok X G (c.fact 29 (f := .glo "history_of") rfl),
    c.def_ 23 (d := D_lots_of) rfl,
    He.glo_ok X G (c.fact 30 (f := .glo "lots_of") rfl),
    c.def_ 24 (d := D_last_of) rfl,
    He.glo_ok X G (c.fact 31 (f := .glo "last_of") rfl),
    c.def_ 25 (d := D__law_plays_right) rfl,
    He.glo_ok X G (c.fact 32 (f := .glo "_law_plays_right") rfl),
    c.def_ 26 (d := D__law_pool) rfl,
    He.glo_ok X G (c.fact 33 (f := .glo "_law_pool") rfl),
    c.def_ 27 (d := D_Row_beaten) rfl,
    c.def_ 28 (d := D_Row_called) rfl,
    c.def_ 29 (d := D_is_lot) rfl,
    He.glo_ok X G (c.fact 34 (f := .glo "is_lot") rfl),
    c.def_ 30 (d := D_Row_part) rfl,
    c.def_ 31 (d := D_Row_turned) rfl,
    c.def_ 32 (d := D__law_rows_right) rfl,
    He.glo_ok X G (c.fact 35 (f := .glo "_law_rows_right") rfl),
    c.def_ 33 (d := D__law_take) rfl,
    He.glo_ok X G (c.fact 36 (f := .glo "_law_take") rfl),
    c.def_ 34 (d := D__law_won) rfl,
    He.glo_ok X G (c.fact 37 (f := .glo "_law_won") rfl),
    c.def_ 35 (d := D_law) rfl,
    He.glo_ok X G (c.fact 38 (f := .glo "law") rfl),
    c.def_ 36 (d := D_NoPlayers) rfl,
    c.def_ 37 (d := D_NoVerdicts) rfl,
    c.def_ 38 (d := D_NoPairs) rfl,
    c.def_ 39 (d := D_NoLot) rfl,
    c.def_ 40 (d := D_NoPlayer) rfl,
    c.def_ 41 (d := D_NoGap) rfl,
    c.def_ 42 (d := D_NoOrder) rfl⟩
end Gk12

set_option maxHeartbeats 0
open PySem PySem.W PySem.Calls PyProof.Rows
theorem PySem.Challenge.cw_lastinrow_k12_rows_and_plays_by_names_holds : PySem.Challenge.rw_lastinrow_k12_rows_and_plays_by_names.Holds := by
  w_on; o_law
  refine HandSHeadRun.head_any (r := OpenLaw.row PySem.Challenge.rw_lastinrow_k12_rows_and_plays_by_names) (q := view (OpenLaw.row PySem.Challenge.rw_lastinrow_k12_rows_and_plays_by_names).prog [37]) (H := Gk12.hk) (ob := Gk12.ob) (M := 6000) (loose := Gk12.loose)
    (d := HandSHeadRun.topDef (OpenLaw.row PySem.Challenge.rw_lastinrow_k12_rows_and_plays_by_names).prog 37) (kwd := []) Gk12.ob_eq
    (by kernel_rfl) (fun s => by kernel_rfl) Gk12.run (by kernel_rfl) (by kernel_rfl) (by kernel_rfl) (by rfl) (by first | assumption | decide +kernel) (by decide +kernel) ⟨rfl, rfl, rfl, rfl, rfl, by decide +kernel⟩ ?hw ?hc
  case hw => w_witness2
  case hc =>
    refine CL.walk_cl (l := PySem.Challenge.rw_lastinrow_k12_rows_and_plays_by_names) (n := 63) (k := 9) (x := "_law_script") (g := Gk12.f_law) rfl (by decide) (by kernel_rfl) ⟨rfl, by decide, by decide⟩ ?F Gk12.plain
    intro w K mg f0 h KX G hmg0 hw c
    have hmg : mg ("law" : PySem.Str) = some (.ref f0) := by
      have e : (HandSHeadRun.topDef (OpenLaw.row PySem.Challenge.rw_lastinrow_k12_rows_and_plays_by_names).prog 37).name = ("law" : PySem.Str) := by kernel_rfl
      rw [← e]
      exact hmg0
    have Φ := Gk12.facts KX G hw c
    obtain ⟨fd, fD⟩ := Φ.d_law
    have e := hmg.symm.trans Φ.g_law
    cases e
    have b := L2.FunD.bindsA (ps := ["_law_script"]) fD fun _ _ _ _ _ _ us hl => match us, hl with | [_], _ => rfl
    exact ⟨fd, fun s v => b s [v] rfl, fun base _ _ => Gk12.fn_law Φ fD⟩
