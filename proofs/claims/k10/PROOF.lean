import PyProof.Rows.All
import Wide.All
import OpenK.AllK
import Wide.FinOn
import HandS.ForMost
import HandS.ForExc
import HandS.Walk
import HandS.CallSlots
import HandS.ExcInit
import HandS.ExcIs
import HandS.ExcField
import HandS.TryMany
import HandS.Small
import KE.KExcIs
import HandS.Wide
import HandS.TupAny
import HandS.Conv
import PySem.Challenge.RW_mostrows_k10_what_refusals_are
set_option Elab.async false
set_option linter.all false
set_option autoImplicit false
set_option maxRecDepth 100000
set_option maxHeartbeats 4000000
namespace MR
open PySem PySem.Spec PyProof.Rows L2
/-- data by value -/
inductive D where
  | non | bl (b : Bool) | int (i : Int) | str (x : Str) | tup (l : List D) | lst (l : List D) | lsf (l : List D) | dk (ks : List Key) (l : List D) | dt (ks : List (List Key)) (l : List D) | raw (v : V) | hx (a : Addr) (d : Option Addr) (c : Str) (ks : List Str) (l : List D) | ex (ks : List Str) (l : List D)
/-- a slot's value: data, or the k-th object that is owned -/
inductive Sv where
  | d (x : D) | r (k : Nat)
/-- an owned object: a list, a dict, or one that is owned no more -/
inductive Mo where
  | l (ds : List D) | dk (ks : List Key) (l : List D) | fz (x : D)
abbrev Mem := List Mo
abbrev Env := List (Option Sv)

def Ex (H H' : Hp) : Prop := ∀ a o, H a = some o → H' a = some o
theorem Ex.refl (H : Hp) : Ex H H := fun _ _ h => h
theorem Ex.trans {H H1 H2 : Hp} (a : Ex H H1) (b : Ex H1 H2) : Ex H H2 := fun x o h => b x o (a x o h)
theorem Ex.new {H : Hp} {p : Addr} {o : HO} (h : H p = none) : Ex H (upd H p o) := fun a u e => by
  rw [upd_ne (ne_of_none e h)]
  exact e
theorem Ex.rd {H H' : Hp} {a : Addr} {u : HO} (e : Ex H H') (h : Rd H a u) : Rd H' a u := by
  rcases h with h | ⟨o, h⟩
  · exact Or.inl (e a _ h)
  · exact Or.inr ⟨o, e a _ h⟩
theorem Ex.sl {K : PySem.W.Frag} {H H' : Hp} {a : Addr} {xs : List V} (e : Ex H H') (h : SqL K H a xs) : SqL K H' a xs := by
  rcases h with h | h
  · exact Or.inl (e.rd h)
  · exact Or.inr h
theorem Ex.st {K : PySem.W.Frag} {H H' : Hp} {a : Addr} {xs : List V} (e : Ex H H') (h : SqT K H a xs) : SqT K H' a xs := by
  rcases h with h | h
  · exact Or.inl (e.rd h)
  · exact Or.inr h
/-- fresh in the greater is fresh in the lesser -/
theorem Ex.back {H H' : Hp} {p : Addr} (e : Ex H H') (h : H' p = none) : H p = none := by
  cases h1 : H p with
  | none => rfl
  | some o =>
    rw [e p o h1] at h
    cases h

/-- fields of an own exception's instances may be read by these names -/
structure Rx (K : PySem.W.Frag) (C : Addr) (ks : List Str) : Prop where
  ga : PySem.W.findIn K (.ref C) "__getattribute__" = some (some (.builtin "BaseException.__getattribute__"))
  gg : PySem.W.findIn K (.ref C) "__getattr__" = some none
  sb : PySem.W.subIn K (.ref C) (.type "BaseException") = some true
  hd : PySem.W.hasDictIn K C = true
  no : ∀ f ∈ ks, PySem.W.findIn K (.ref C) f = some none
mutual
/-- v is the data d, as I has it -/
inductive Rp (K : PySem.W.Frag) (I : Hp) : V → D → Prop
  | non : Rp K I .non .non
  | bl (b : Bool) : Rp K I (.bl b) (.bl b)
  | int (i : Int) : Rp K I (.int i) (.int i)
  | str (x : Str) : Rp K I (.str x) (.str x)
  | tup {a : Addr} {xs : List V} {ds : List D} : SqT K I a xs → RpA K I xs ds → Rp K I (.ref a) (.tup ds)
  | lst {a : Addr} {xs : List V} {ds : List D} : I a = some (.lst xs) → RpA K I xs ds → Rp K I (.ref a) (.lst ds)
  | lsf {a : Addr} {xs : List V} {ds : List D} : SqL K I a xs → RpA K I xs ds → Rp K I (.ref a) (.lsf ds)
  | dk {a : Addr} {ks : List Key} {xs : List V} {ds : List D} : I a = some (.dK (ks.zip xs)) → ks.length = xs.length → RpA K I xs ds → Rp K I (.ref a) (.dk ks ds)
  | dt {a : Addr} {ks : List (List Key)} {xs : List V} {ds : List D} : I a = some (.dT (ks.zip xs)) → ks.length = xs.length → RpA K I xs ds → Rp K I (.ref a) (.dt ks ds)
  | raw (v : V) : Rp K I v (.raw v)
  | hx0 {a : Addr} {c : Str} : Rp K I (.ref a) (.hx a none c [] [])
  | hx1 {a dd : Addr} {c : Str} {ks : List Str} {xs : List V} {ds : List D} : I dd = some (.xd (ks.zip xs)) → RpA K I xs ds → Rp K I (.ref a) (.hx a (some dd) c ks ds)
  | ex {a dd C : Addr} {ks : List Str} {xs : List V} {ds : List D} : I a = some (exo a C (some dd)) → I dd = some (exd dd (ks.zip xs)) → Rx K C ks → RpA K I xs ds → Rp K I (.ref a) (.ex ks ds)
inductive RpA (K : PySem.W.Frag) (I : Hp) : List V → List D → Prop
  | nil : RpA K I [] []
  | cons {v : V} {vs : List V} {d : D} {ds : List D} : Rp K I v d → RpA K I vs ds → RpA K I (v :: vs) (d :: ds)
end
theorem Rp.mono {K : PySem.W.Frag} {I I' : Hp} (e : Ex I I') {v : V} {d : D} (h : Rp K I v d) : Rp K I' v d := by
  refine Rp.rec (motive_1 := fun v d _ => Rp K I' v d) (motive_2 := fun vs ds _ => RpA K I' vs ds) ?_ ?_ ?_ ?_ ?_ ?_ ?_ ?_ ?_ ?_ ?_ ?_ ?_ ?_ ?_ h
  · exact .non
  · exact .bl
  · exact .int
  · exact .str
  · exact fun h _ ih => .tup (e.st h) ih
  · exact fun h _ ih => .lst (e _ _ h) ih
  · exact fun h _ ih => .lsf (e.sl h) ih
  · exact fun h z _ ih => .dk (e _ _ h) z ih
  · exact fun h z _ ih => .dt (e _ _ h) z ih
  · exact .raw
  · exact .hx0
  · exact fun h _ ih => .hx1 (e _ _ h) ih
  · exact fun h1 h2 h3 _ ih => .ex (e _ _ h1) (e _ _ h2) h3 ih
  · exact .nil
  · exact fun _ _ a b => .cons a b
theorem RpA.mono {K : PySem.W.Frag} {I I' : Hp} (e : Ex I I') : ∀ {vs : List V} {ds : List D}, RpA K I vs ds → RpA K I' vs ds
  | _, _, .nil => .nil
  | _, _, .cons a b => .cons (a.mono e) (b.mono e)
theorem RpA.length {K : PySem.W.Frag} {I : Hp} : ∀ {vs : List V} {ds : List D}, RpA K I vs ds → vs.length = ds.length
  | _, _, .nil => rfl
  | _, _, .cons _ b => congrArg (· + 1) b.length
theorem RpA.append {K : PySem.W.Frag} {I : Hp} : ∀ {vs ws : List V} {ds es : List D}, RpA K I vs ds → RpA K I ws es → RpA K I (vs ++ ws) (ds ++ es)
  | _, _, _, _, .nil, h => h
  | _, _, _, _, .cons a b, h => .cons a (b.append h)
theorem RpA.get {K : PySem.W.Frag} {I : Hp} : ∀ {vs : List V} {ds : List D} {i : Nat} {d : D}, RpA K I vs ds → ds[i]? = some d → ∃ v, vs[i]? = some v ∧ Rp K I v d
  | _, _, _, _, .nil, e => by simp at e
  | _, _, 0, _, .cons a _, e => by simp at e; subst e; exact ⟨_, rfl, a⟩
  | _, _, i + 1, d, .cons _ b, e => by
    obtain ⟨v, h1, h2⟩ := RpA.get (i := i) (d := d) b (by simpa using e)
    exact ⟨v, by simpa using h1, h2⟩
theorem RpA.get' {K : PySem.W.Frag} {I : Hp} : ∀ {vs : List V} {ds : List D} {i : Nat} {v : V}, RpA K I vs ds → vs[i]? = some v → ∃ d, ds[i]? = some d ∧ Rp K I v d
  | _, _, _, _, .nil, e => by simp at e
  | _, _, 0, _, .cons a _, e => by simp at e; subst e; exact ⟨_, rfl, a⟩
  | _, _, i + 1, d, .cons _ b, e => by
    obtain ⟨v, h1, h2⟩ := RpA.get' (i := i) (v := d) b (by simpa using e)
    exact ⟨v, by simpa using h1, h2⟩
theorem RpA.set {K : PySem.W.Frag} {I : Hp} {v : V} {d : D} (h : Rp K I v d) : ∀ {vs : List V} {ds : List D} (i : Nat), RpA K I vs ds → RpA K I (vs.set i v) (ds.set i d)
  | _, _, _, .nil => .nil
  | _, _, 0, .cons _ b => .cons h b
  | _, _, i + 1, .cons a b => .cons a (RpA.set h i b)
theorem RpA.take {K : PySem.W.Frag} {I : Hp} : ∀ {vs : List V} {ds : List D} (n : Nat), RpA K I vs ds → RpA K I (vs.take n) (ds.take n)
  | _, _, 0, _ => .nil
  | _, _, _ + 1, .nil => .nil
  | _, _, n + 1, .cons a b => .cons a (b.take n)
theorem RpA.drop {K : PySem.W.Frag} {I : Hp} : ∀ {vs : List V} {ds : List D} (n : Nat), RpA K I vs ds → RpA K I (vs.drop n) (ds.drop n)
  | _, _, 0, h => h
  | _, _, _ + 1, .nil => .nil
  | _, _, n + 1, .cons _ b => b.drop n
theorem RpA.erase {K : PySem.W.Frag} {I : Hp} : ∀ {vs : List V} {ds : List D} (n : Nat), RpA K I vs ds → RpA K I (vs.eraseIdx n) (ds.eraseIdx n)
  | _, _, _, .nil => .nil
  | _, _, 0, .cons _ b => b
  | _, _, n + 1, .cons a b => .cons a (b.erase n)
theorem RpA.dropLast {K : PySem.W.Frag} {I : Hp} {vs : List V} {ds : List D} (h : RpA K I vs ds) : RpA K I vs.dropLast ds.dropLast := by
  rw [List.dropLast_eq_take, List.dropLast_eq_take, h.length]
  exact h.take _
/-! typed lists -/
theorem RpA.ints {K : PySem.W.Frag} {I : Hp} : ∀ {ns : List Int} {vs : List V}, RpA K I vs (ns.map D.int) → vs = ns.map V.int
  | [], _, .nil => rfl
  | _ :: _, _, .cons (.int _) b => by rw [RpA.ints b]; rfl
theorem RpA.strs {K : PySem.W.Frag} {I : Hp} : ∀ {ns : List Str} {vs : List V}, RpA K I vs (ns.map D.str) → vs = ns.map V.str
  | [], _, .nil => rfl
  | _ :: _, _, .cons (.str _) b => by rw [RpA.strs b]; rfl
theorem RpA.bls {K : PySem.W.Frag} {I : Hp} : ∀ {ns : List Bool} {vs : List V}, RpA K I vs (ns.map D.bl) → vs = ns.map V.bl
  | [], _, .nil => rfl
  | _ :: _, _, .cons (.bl _) b => by rw [RpA.bls b]; rfl
theorem RpA.of_ints {K : PySem.W.Frag} {I : Hp} : ∀ {ns : List Int}, RpA K I (ns.map V.int) (ns.map D.int)
  | [] => .nil
  | _ :: _ => .cons (.int _) RpA.of_ints
theorem RpA.of_strs {K : PySem.W.Frag} {I : Hp} : ∀ {ns : List Str}, RpA K I (ns.map V.str) (ns.map D.str)
  | [] => .nil
  | _ :: _ => .cons (.str _) RpA.of_strs
end MR

namespace MR
open PySem PySem.Spec PyProof.Rows L2
/-- where the owned objects lie, what is known for good, what must stand besides -/
structure Wd where
  φ : List Addr
  I : Hp
  F : Hp
structure Wd.Le (a b : Wd) : Prop where
  φ : ∀ (k : Nat) (x : Addr), a.φ[k]? = some x → b.φ[k]? = some x
  I : Ex a.I b.I
  F : Ex a.F b.F
  no : ∀ x o, a.F x = some o → a.I x = none → b.I x = none
theorem Wd.Le.refl (a : Wd) : Wd.Le a a := ⟨fun _ _ h => h, Ex.refl _, Ex.refl _, fun _ _ _ h => h⟩
theorem Wd.Le.trans {a b c : Wd} (h : Wd.Le a b) (g : Wd.Le b c) : Wd.Le a c :=
  ⟨fun k x e => g.φ k x (h.φ k x e), h.I.trans g.I, h.F.trans g.F, fun x o e n => g.no x o (h.F x o e) (h.no x o e n)⟩
def isFz : Mo → Bool
  | .fz _ => true
  | _ => false
def RpM (K : PySem.W.Frag) (I H : Hp) (a : Addr) : Mo → Prop
  | .l ds => ∃ vs, H a = some (.lst vs) ∧ RpA K I vs ds
  | .dk ks ds => ∃ vs, H a = some (.dK (ks.zip vs)) ∧ ks.length = vs.length ∧ RpA K I vs ds
  | .fz d => Rp K I (.ref a) d
structure Hm (K : PySem.W.Frag) (w : Wd) (m : Mem) (H : Hp) : Prop where
  exI : Ex w.I w.F
  exF : Ex w.F H
  len : w.φ.length = m.length
  obj : ∀ (k : Nat) (a : Addr) (o : Mo), w.φ[k]? = some a → m[k]? = some o → RpM K w.I H a o
  own : ∀ (k : Nat) (a : Addr) (o : Mo), w.φ[k]? = some a → m[k]? = some o → isFz o = false → w.F a = none
  inj : ∀ (j k : Nat) (a : Addr) (o o' : Mo), w.φ[j]? = some a → w.φ[k]? = some a → m[j]? = some o → m[k]? = some o' → isFz o = false → isFz o' = false → j = k
def RpS (K : PySem.W.Frag) (w : Wd) : Sv → V → Prop
  | .d x, v => Rp K w.I v x
  | .r k, v => ∃ a, w.φ[k]? = some a ∧ v = .ref a
inductive RpL (K : PySem.W.Frag) (w : Wd) : List Sv → List V → Prop
  | nil : RpL K w [] []
  | cons {x : Sv} {v : V} {xs : List Sv} {vs : List V} : RpS K w x v → RpL K w xs vs → RpL K w (x :: xs) (v :: vs)
structure RpE (K : PySem.W.Frag) (w : Wd) (env : Env) (σ : L2.St) : Prop where
  len : env.length = σ.length
  at' : ∀ (i : Nat) (x : Sv), env[i]? = some (some x) → ∃ v, σ[i]? = some (some v) ∧ RpS K w x v
section
variable {K : PySem.W.Frag} {w w' : Wd}
theorem RpS.mono (l : Wd.Le w w') : ∀ {x : Sv} {v : V}, RpS K w x v → RpS K w' x v
  | .d _, _, h => Rp.mono l.I h
  | .r _, _, ⟨a, h, e⟩ => ⟨a, l.φ _ _ h, e⟩
theorem RpL.mono (l : Wd.Le w w') : ∀ {xs : List Sv} {vs : List V}, RpL K w xs vs → RpL K w' xs vs
  | _, _, .nil => .nil
  | _, _, .cons a b => .cons (a.mono l) (b.mono l)
theorem RpL.length : ∀ {xs : List Sv} {vs : List V}, RpL K w xs vs → xs.length = vs.length
  | _, _, .nil => rfl
  | _, _, .cons _ b => congrArg (· + 1) b.length
theorem RpE.mono (l : Wd.Le w w') {env : Env} {σ : L2.St} (h : RpE K w env σ) : RpE K w' env σ :=
  ⟨h.len, fun i x e => let ⟨v, a, b⟩ := h.at' i x e; ⟨v, a, b.mono l⟩⟩
theorem RpE.set {env : Env} {σ : L2.St} (h : RpE K w env σ) {x : Sv} {v : V} (i : Nat) (r : RpS K w x v) : RpE K w (env.set i (some x)) (σ.set i (some v)) := by
  refine ⟨by rw [List.length_set, List.length_set, h.len], fun j y e => ?_⟩
  by_cases hj : i = j
  · subst hj
    have hl : i < env.length := by
      have := (List.getElem?_eq_some_iff.mp e).1
      rwa [List.length_set] at this
    rw [List.getElem?_set_self hl] at e
    cases e
    exact ⟨v, by rw [List.getElem?_set_self (by rw [← h.len]; exact hl)], r⟩
  · rw [List.getElem?_set_ne hj] at e
    obtain ⟨u, a, b⟩ := h.at' j y e
    exact ⟨u, by rw [List.getElem?_set_ne hj]; exact a, b⟩
end

/-- an exception: its class's name, its fields -/
inductive Xc where
  | mk (c : Str) (fs : List (Str × D))
/-- what a piece of code gives: a value or an exception, and the owned objects behind it; none: nothing is known -/
abbrev M (α : Type) := Mem → Option (Except Xc α × Mem)
def M.ok {α : Type} (x : α) : M α := fun m => some (.ok x, m)
def M.no {α : Type} : M α := fun _ => none
def M.bd {α β : Type} (a : M α) (k : α → M β) : M β := fun m => match a m with
  | some (.ok x, m1) => k x m1
  | some (.error e, m1) => some (.error e, m1)
  | none => none
/-- what is asked ahead: a bound -/
def M.if {α : Type} (c : Prop) [Decidable c] (a : M α) : M α := fun m => if c then a m else none

/-- where the classes of exceptions stand -/
structure Gm where
  K : PySem.W.Frag
  cl : Str → Option Addr
def RpX (G : Gm) (w : Wd) : Xc → Value → Option Addr → Hp → Prop
  | .mk c fs, cls, d, _ => ∃ C, G.cl c = some C ∧ cls = .ref C ∧ (fs = [] ∧ d = none ∨ ∃ (dd : Addr) (vs : List V), d = some dd ∧ w.I dd = some (.xd ((fs.map (·.1)).zip vs)) ∧ RpA G.K w.I vs (fs.map (·.2)))
/-- what must follow -/
def PoE (G : Gm) (W : WX) (σ : L2.St) (Q : VK) (w : Wd) (m : Mem) (r : Except Xc Sv) : Prop := ∀ w' H', Wd.Le w w' → Hm G.K w' m H' → match r with
  | .ok x => ∀ v, RpS G.K w' x v → Q v H'
  | .error e => ∀ cls d, RpX G w' e cls d H' → W cls d σ H'
def PoT (G : Gm) (W : WX) (σ : L2.St) (Q : Bool → Hp → Prop) (w : Wd) (m : Mem) (r : Except Xc Bool) : Prop := ∀ w' H', Wd.Le w w' → Hm G.K w' m H' → match r with
  | .ok x => Q x H'
  | .error e => ∀ cls d, RpX G w' e cls d H' → W cls d σ H'
def PoA (G : Gm) (W : WX) (σ : L2.St) (Q : List V → Hp → Prop) (w : Wd) (m : Mem) (r : Except Xc (List Sv)) : Prop := ∀ w' H', Wd.Le w w' → Hm G.K w' m H' → match r with
  | .ok x => ∀ v, RpL G.K w' x v → Q v H'
  | .error e => ∀ cls d, RpX G w' e cls d H' → W cls d σ H'
def CoE (G : Gm) (W : WX) (σ : L2.St) (Q : VK) (w : Wd) (c : M Sv) (m : Mem) : Prop := ∃ r m', c m = some (r, m') ∧ PoE G W σ Q w m' r
def CoT (G : Gm) (W : WX) (σ : L2.St) (Q : Bool → Hp → Prop) (w : Wd) (c : M Bool) (m : Mem) : Prop := ∃ r m', c m = some (r, m') ∧ PoT G W σ Q w m' r
def CoA (G : Gm) (W : WX) (σ : L2.St) (Q : List V → Hp → Prop) (w : Wd) (c : M (List Sv)) (m : Mem) : Prop := ∃ r m', c m = some (r, m') ∧ PoA G W σ Q w m' r
def tI (G : Gm) (W : WX) (f : Env → M Sv) : TE := fun σ H Q => ∃ w env m, Hm G.K w m H ∧ RpE G.K w env σ ∧ CoE G W σ Q w (f env) m
def tT (G : Gm) (W : WX) (f : Env → M Bool) : TT := fun σ H Q => ∃ w env m, Hm G.K w m H ∧ RpE G.K w env σ ∧ CoT G W σ Q w (f env) m
def tA (G : Gm) (W : WX) (f : Env → M (List Sv)) : TA := fun σ H Q => ∃ w env m, Hm G.K w m H ∧ RpE G.K w env σ ∧ CoA G W σ Q w (f env) m

theorem PoE.at' {G : Gm} {W : WX} {σ : L2.St} {Q : VK} {w w' : Wd} {m : Mem} {r : Except Xc Sv} (h : PoE G W σ Q w m r) (l : Wd.Le w w') : PoE G W σ Q w' m r := fun w2 H2 l2 => h w2 H2 (l.trans l2)
theorem PoT.at' {G : Gm} {W : WX} {σ : L2.St} {Q : Bool → Hp → Prop} {w w' : Wd} {m : Mem} {r : Except Xc Bool} (h : PoT G W σ Q w m r) (l : Wd.Le w w') : PoT G W σ Q w' m r := fun w2 H2 l2 => h w2 H2 (l.trans l2)
theorem PoA.at' {G : Gm} {W : WX} {σ : L2.St} {Q : List V → Hp → Prop} {w w' : Wd} {m : Mem} {r : Except Xc (List Sv)} (h : PoA G W σ Q w m r) (l : Wd.Le w w') : PoA G W σ Q w' m r := fun w2 H2 l2 => h w2 H2 (l.trans l2)

section
variable {G : Gm} {W : WX} {σ : L2.St} {w : Wd} {m : Mem}
/-- a value, then more -/
theorem bdEE {Q R : VK} {a : M Sv} {k : Sv → M Sv} (c : CoE G W σ Q w (a.bd k) m) (h : ∀ w' m' H' x v, Wd.Le w w' → Hm G.K w' m' H' → RpS G.K w' x v → CoE G W σ Q w' (k x) m' → R v H') : CoE G W σ R w a m := by
  obtain ⟨r, m', e, p⟩ := c
  unfold M.bd at e
  split at e
  · rename_i x m1 ea
    exact ⟨.ok x, m1, ea, fun w' H' l hm v hv => h w' m1 H' x v l hm hv ⟨r, m', e, p.at' l⟩⟩
  · rename_i x m1 ea
    cases e
    exact ⟨.error x, m', ea, fun w' H' l hm cls d q => p w' H' l hm cls d q⟩
  · cases e
theorem bdET {Q : Bool → Hp → Prop} {R : VK} {a : M Sv} {k : Sv → M Bool} (c : CoT G W σ Q w (a.bd k) m) (h : ∀ w' m' H' x v, Wd.Le w w' → Hm G.K w' m' H' → RpS G.K w' x v → CoT G W σ Q w' (k x) m' → R v H') : CoE G W σ R w a m := by
  obtain ⟨r, m', e, p⟩ := c
  unfold M.bd at e
  split at e
  · rename_i x m1 ea
    exact ⟨.ok x, m1, ea, fun w' H' l hm v hv => h w' m1 H' x v l hm hv ⟨r, m', e, p.at' l⟩⟩
  · rename_i x m1 ea
    cases e
    exact ⟨.error x, m', ea, fun w' H' l hm cls d q => p w' H' l hm cls d q⟩
  · cases e
theorem bdTT {Q R : Bool → Hp → Prop} {a : M Bool} {k : Bool → M Bool} (c : CoT G W σ Q w (a.bd k) m) (h : ∀ w' m' H' x, Wd.Le w w' → Hm G.K w' m' H' → CoT G W σ Q w' (k x) m' → R x H') : CoT G W σ R w a m := by
  obtain ⟨r, m', e, p⟩ := c
  unfold M.bd at e
  split at e
  · rename_i x m1 ea
    exact ⟨.ok x, m1, ea, fun w' H' l hm => h w' m1 H' x l hm ⟨r, m', e, p.at' l⟩⟩
  · rename_i x m1 ea
    cases e
    exact ⟨.error x, m', ea, fun w' H' l hm cls d q => p w' H' l hm cls d q⟩
  · cases e
theorem bdTE {Q : VK} {R : Bool → Hp → Prop} {a : M Bool} {k : Bool → M Sv} (c : CoE G W σ Q w (a.bd k) m) (h : ∀ w' m' H' x, Wd.Le w w' → Hm G.K w' m' H' → CoE G W σ Q w' (k x) m' → R x H') : CoT G W σ R w a m := by
  obtain ⟨r, m', e, p⟩ := c
  unfold M.bd at e
  split at e
  · rename_i x m1 ea
    exact ⟨.ok x, m1, ea, fun w' H' l hm => h w' m1 H' x l hm ⟨r, m', e, p.at' l⟩⟩
  · rename_i x m1 ea
    cases e
    exact ⟨.error x, m', ea, fun w' H' l hm cls d q => p w' H' l hm cls d q⟩
  · cases e
theorem bdAE {Q : VK} {R : List V → Hp → Prop} {a : M (List Sv)} {k : List Sv → M Sv} (c : CoE G W σ Q w (a.bd k) m) (h : ∀ w' m' H' x v, Wd.Le w w' → Hm G.K w' m' H' → RpL G.K w' x v → CoE G W σ Q w' (k x) m' → R v H') : CoA G W σ R w a m := by
  obtain ⟨r, m', e, p⟩ := c
  unfold M.bd at e
  split at e
  · rename_i x m1 ea
    exact ⟨.ok x, m1, ea, fun w' H' l hm v hv => h w' m1 H' x v l hm hv ⟨r, m', e, p.at' l⟩⟩
  · rename_i x m1 ea
    cases e
    exact ⟨.error x, m', ea, fun w' H' l hm cls d q => p w' H' l hm cls d q⟩
  · cases e
theorem bdEA {Q : List V → Hp → Prop} {R : VK} {a : M Sv} {k : Sv → M (List Sv)} (c : CoA G W σ Q w (a.bd k) m) (h : ∀ w' m' H' x v, Wd.Le w w' → Hm G.K w' m' H' → RpS G.K w' x v → CoA G W σ Q w' (k x) m' → R v H') : CoE G W σ R w a m := by
  obtain ⟨r, m', e, p⟩ := c
  unfold M.bd at e
  split at e
  · rename_i x m1 ea
    exact ⟨.ok x, m1, ea, fun w' H' l hm v hv => h w' m1 H' x v l hm hv ⟨r, m', e, p.at' l⟩⟩
  · rename_i x m1 ea
    cases e
    exact ⟨.error x, m', ea, fun w' H' l hm cls d q => p w' H' l hm cls d q⟩
  · cases e
theorem bdAA {Q R : List V → Hp → Prop} {a : M (List Sv)} {k : List Sv → M (List Sv)} (c : CoA G W σ Q w (a.bd k) m) (h : ∀ w' m' H' x v, Wd.Le w w' → Hm G.K w' m' H' → RpL G.K w' x v → CoA G W σ Q w' (k x) m' → R v H') : CoA G W σ R w a m := by
  obtain ⟨r, m', e, p⟩ := c
  unfold M.bd at e
  split at e
  · rename_i x m1 ea
    exact ⟨.ok x, m1, ea, fun w' H' l hm v hv => h w' m1 H' x v l hm hv ⟨r, m', e, p.at' l⟩⟩
  · rename_i x m1 ea
    cases e
    exact ⟨.error x, m', ea, fun w' H' l hm cls d q => p w' H' l hm cls d q⟩
  · cases e
/-- the end -/
theorem CoE.ret {Q : VK} {x : Sv} {v : V} {H : Hp} (c : CoE G W σ Q w (M.ok x) m) (hm : Hm G.K w m H) (h : RpS G.K w x v) : Q v H := by
  obtain ⟨r, m', e, p⟩ := c
  cases e
  exact p w H (Wd.Le.refl w) hm v h
theorem CoT.ret {Q : Bool → Hp → Prop} {x : Bool} {H : Hp} (c : CoT G W σ Q w (M.ok x) m) (hm : Hm G.K w m H) : Q x H := by
  obtain ⟨r, m', e, p⟩ := c
  cases e
  exact p w H (Wd.Le.refl w) hm
theorem CoA.ret {Q : List V → Hp → Prop} {x : List Sv} {v : List V} {H : Hp} (c : CoA G W σ Q w (M.ok x) m) (hm : Hm G.K w m H) (h : RpL G.K w x v) : Q v H := by
  obtain ⟨r, m', e, p⟩ := c
  cases e
  exact p w H (Wd.Le.refl w) hm v h
theorem CoE.retW {Q : VK} {x : Sv} {v : V} {w' : Wd} {H : Hp} (c : CoE G W σ Q w (M.ok x) m) (l : Wd.Le w w') (hm : Hm G.K w' m H) (h : RpS G.K w' x v) : Q v H := by
  obtain ⟨r, m', e, p⟩ := c
  cases e
  exact p w' H l hm v h
theorem CoE.no {Q : VK} (c : CoE G W σ Q w M.no m) : False := by
  obtain ⟨r, m', e, p⟩ := c
  cases e
theorem CoE.ifc {Q : VK} {c : Prop} [Decidable c] {a : M Sv} (h : CoE G W σ Q w (M.if c a) m) : c ∧ CoE G W σ Q w a m := by
  obtain ⟨r, m', e, p⟩ := h
  unfold M.if at e
  split at e
  · rename_i hc
    exact ⟨hc, r, m', e, p⟩
  · cases e
end

/-! ### objects come and change -/
section
variable {K : PySem.W.Frag} {w : Wd} {m : Mem} {H : Hp}
theorem Hm.notφ (h : Hm K w m H) {p : Addr} (hp : H p = none) : ∀ (k : Nat) (a : Addr) (o : Mo), w.φ[k]? = some a → m[k]? = some o → isFz o = false → a ≠ p := fun k a o ea eo hf e => by
  have q := h.obj k a o ea eo
  subst e
  cases o with
  | l ds =>
    obtain ⟨vs, z, _⟩ := q
    rw [hp] at z
    cases z
  | dk ks ds =>
    obtain ⟨vs, z, _⟩ := q
    rw [hp] at z
    cases z
  | fz d => cases hf
def Wd.imm (w : Wd) (p : Addr) (o : HO) : Wd := ⟨w.φ, upd w.I p o, upd w.F p o⟩
theorem Wd.imm_le (h : Hm K w m H) {p : Addr} (o : HO) (hp : H p = none) : Wd.Le w (w.imm p o) :=
  ⟨fun _ _ e => e, Ex.new (h.exI.back (h.exF.back hp)), Ex.new (h.exF.back hp), fun x u e n => by
    show upd w.I p o x = none
    rw [upd_ne (ne_of_none e (h.exF.back hp))]
    exact n⟩
theorem RpM.upd {I I' : Hp} {a p : Addr} {o : HO} (e : Ex I I') (ne : a ≠ p) : ∀ {x : Mo}, RpM K I H a x → RpM K I' (upd H p o) a x
  | .l _, ⟨vs, z, r⟩ => ⟨vs, by rw [upd_ne ne]; exact z, r.mono e⟩
  | .dk _ _, ⟨vs, z, hl, r⟩ => ⟨vs, by rw [upd_ne ne]; exact z, hl, r.mono e⟩
  | .fz _, r => Rp.mono e r
theorem RpM.fz {I I' H' : Hp} {a : Addr} {x : Mo} (e : Ex I I') (f : isFz x = true) (h : RpM K I H a x) : RpM K I' H' a x := by
  cases x with
  | fz d => exact Rp.mono e h
  | l ds => cases f
  | dk ks ds => cases f
/-- a new thing that stays as it is -/
theorem Hm.imm (h : Hm K w m H) {p : Addr} (o : HO) (hp : H p = none) : Hm K (w.imm p o) m (upd H p o) where
  exI := fun a u e => by
    have e' : upd w.I p o a = some u := e
    show upd w.F p o a = some u
    by_cases ha : a = p
    · subst ha
      rw [upd_same] at e' ⊢
      exact e'
    · rw [upd_ne ha] at e' ⊢
      exact h.exI a u e'
  exF := fun a u e => by
    have e' : upd w.F p o a = some u := e
    by_cases ha : a = p
    · subst ha
      rw [upd_same] at e' ⊢
      exact e'
    · rw [upd_ne ha] at e' ⊢
      exact h.exF a u e'
  len := h.len
  obj := fun k a u ea eo => by
    have hle := (Wd.imm_le h o hp).I
    cases hf : isFz u with
    | false => exact RpM.upd hle (h.notφ hp k a u ea eo hf) (h.obj k a u ea eo)
    | true => exact RpM.fz hle hf (h.obj k a u ea eo)
  own := fun k a u ea eo hf => by
    show upd w.F p o a = none
    rw [upd_ne (h.notφ hp k a u ea eo hf)]
    exact h.own k a u ea eo hf
  inj := h.inj
def Wd.new (w : Wd) (p : Addr) : Wd := ⟨w.φ ++ [p], w.I, w.F⟩
theorem Wd.new_le (w : Wd) (p : Addr) : Wd.Le w (w.new p) :=
  ⟨fun k x e => by
    show (w.φ ++ [p])[k]? = some x
    rw [List.getElem?_append_left (List.getElem?_eq_some_iff.mp e).1]
    exact e, Ex.refl _, Ex.refl _, fun _ _ _ n => n⟩
/-- a new object of one's own -/
theorem Hm.new (h : Hm K w m H) {p : Addr} {o : HO} {x : Mo} (hp : H p = none) (hx : RpM K w.I (upd H p o) p x) : Hm K (w.new p) (m ++ [x]) (upd H p o) := by
  have cs : ∀ (k : Nat) (a : Addr) (u : Mo), (w.φ ++ [p])[k]? = some a → (m ++ [x])[k]? = some u → (w.φ[k]? = some a ∧ m[k]? = some u) ∨ (k = m.length ∧ a = p ∧ u = x) := fun k a u ea eo => by
    by_cases hk : k < m.length
    · left
      rw [List.getElem?_append_left (by rw [h.len]; exact hk)] at ea
      rw [List.getElem?_append_left hk] at eo
      exact ⟨ea, eo⟩
    · right
      have hk2 : k = m.length := by
        have := (List.getElem?_eq_some_iff.mp eo).1
        rw [List.length_append, List.length_singleton] at this
        omega
      subst hk2
      rw [List.getElem?_append_right (Nat.le_refl _), Nat.sub_self] at eo
      rw [List.getElem?_append_right (by rw [h.len]; exact Nat.le_refl _), h.len, Nat.sub_self] at ea
      exact ⟨rfl, (Option.some.inj ea).symm, (Option.some.inj eo).symm⟩
  refine ⟨h.exI, h.exF.trans (Ex.new hp), ?_, fun k a u ea eo => ?_, fun k a u ea eo hf => ?_, fun j k a u u' ej ek oj ok hf hf' => ?_⟩
  · show (w.φ ++ [p]).length = (m ++ [x]).length
    rw [List.length_append, List.length_append, h.len]
    rfl
  · rcases cs k a u ea eo with ⟨e1, e2⟩ | ⟨rfl, rfl, rfl⟩
    · cases hf : isFz u with
      | false => exact RpM.upd (Ex.refl _) (h.notφ hp k a u e1 e2 hf) (h.obj k a u e1 e2)
      | true => exact RpM.fz (Ex.refl _) hf (h.obj k a u e1 e2)
    · exact hx
  · rcases cs k a u ea eo with ⟨e1, e2⟩ | ⟨rfl, rfl, rfl⟩
    · exact h.own k a u e1 e2 hf
    · exact h.exF.back hp
  · rcases cs j a u ej oj with ⟨e1, e2⟩ | ⟨rfl, rfl, rfl⟩
    · rcases cs k a u' ek ok with ⟨e3, e4⟩ | ⟨rfl, rfl, rfl⟩
      · exact h.inj j k a u u' e1 e3 e2 e4 hf hf'
      · exact absurd rfl (h.notφ hp j a u e1 e2 hf)
    · rcases cs k a u' ek ok with ⟨e3, e4⟩ | ⟨rfl, _, _⟩
      · exact absurd rfl (h.notφ hp k a u' e3 e4 hf')
      · rfl
/-- an owned object changes -/
theorem Hm.set (h : Hm K w m H) {k : Nat} {a : Addr} {o : HO} {x y : Mo} (ea : w.φ[k]? = some a) (ek : m[k]? = some y) (fy : isFz y = false) (hx : RpM K w.I (upd H a o) a x) (fx : isFz x = false) : Hm K w (m.set k x) (upd H a o) := by
  have hF := h.own k a y ea ek fy
  have hk : k < m.length := (List.getElem?_eq_some_iff.mp ek).1
  have cs : ∀ (j : Nat) (u : Mo), (m.set k x)[j]? = some u → (j ≠ k ∧ m[j]? = some u) ∨ (j = k ∧ u = x) := fun j u eo => by
    by_cases hj : k = j
    · subst hj
      rw [List.getElem?_set_self hk] at eo
      exact .inr ⟨rfl, (Option.some.inj eo).symm⟩
    · rw [List.getElem?_set_ne hj] at eo
      exact .inl ⟨fun z => hj z.symm, eo⟩
  refine ⟨h.exI, fun b u e => ?_, by rw [List.length_set]; exact h.len, fun j b u eb eo => ?_, fun j b u eb eo hf => ?_, fun i j b u u' ei ej oi oj hf hf' => ?_⟩
  · rw [upd_ne (ne_of_none e hF)]
    exact h.exF b u e
  · rcases cs j u eo with ⟨nj, e2⟩ | ⟨rfl, rfl⟩
    · cases hf : isFz u with
      | false => exact RpM.upd (Ex.refl _) (fun z => nj (h.inj j k b u y eb (by rw [ea, z]) e2 ek hf fy)) (h.obj j b u eb e2)
      | true => exact RpM.fz (Ex.refl _) hf (h.obj j b u eb e2)
    · rw [ea] at eb
      cases eb
      exact hx
  · rcases cs j u eo with ⟨nj, e2⟩ | ⟨rfl, rfl⟩
    · exact h.own j b u eb e2 hf
    · rw [ea] at eb
      cases eb
      exact hF
  · rcases cs i u oi with ⟨ni, e1⟩ | ⟨rfl, rfl⟩
    · rcases cs j u' oj with ⟨nj, e2⟩ | ⟨rfl, rfl⟩
      · exact h.inj i j b u u' ei ej e1 e2 hf hf'
      · exact h.inj i j b u y ei ej e1 ek hf fy
    · rcases cs j u' oj with ⟨nj, e2⟩ | ⟨rfl, rfl⟩
      · exact h.inj i j b y u' ei ej ek e2 fy hf'
      · rfl
/-- an owned object is owned no more -/
def Wd.frz (w : Wd) (a : Addr) (o : HO) : Wd := ⟨w.φ, upd w.I a o, upd w.F a o⟩
theorem Wd.frz_le (h : Hm K w m H) {k : Nat} {a : Addr} {y : Mo} (o : HO) (ea : w.φ[k]? = some a) (ek : m[k]? = some y) (fy : isFz y = false) : Wd.Le w (w.frz a o) := by
  have hF := h.own k a y ea ek fy
  exact ⟨fun _ _ e => e, Ex.new (h.exI.back hF), Ex.new hF, fun x u e n => by
    show upd w.I a o x = none
    rw [upd_ne (ne_of_none e hF)]
    exact n⟩
theorem Hm.frz (h : Hm K w m H) {k : Nat} {a : Addr} {o : HO} {d : D} {y : Mo} (ea : w.φ[k]? = some a) (ek : m[k]? = some y) (fy : isFz y = false) (ho : H a = some o) (hd : Rp K (upd w.I a o) (.ref a) d) : Hm K (w.frz a o) (m.set k (.fz d)) H := by
  have hF := h.own k a y ea ek fy
  have hk : k < m.length := (List.getElem?_eq_some_iff.mp ek).1
  have hI := (Wd.frz_le h o ea ek fy).I
  have cs : ∀ (j : Nat) (u : Mo), (m.set k (.fz d))[j]? = some u → (j ≠ k ∧ m[j]? = some u) ∨ (j = k ∧ u = .fz d) := fun j u eo => by
    by_cases hj : k = j
    · subst hj
      rw [List.getElem?_set_self hk] at eo
      exact .inr ⟨rfl, (Option.some.inj eo).symm⟩
    · rw [List.getElem?_set_ne hj] at eo
      exact .inl ⟨fun z => hj z.symm, eo⟩
  refine ⟨fun b u e => ?_, fun b u e => ?_, by rw [List.length_set]; exact h.len, fun j b u eb eo => ?_, fun j b u eb eo hf => ?_, fun i j b u u' ei ej oi oj hf hf' => ?_⟩
  · have e' : upd w.I a o b = some u := e
    show upd w.F a o b = some u
    by_cases hb : b = a
    · subst hb
      rw [upd_same] at e' ⊢
      exact e'
    · rw [upd_ne hb] at e' ⊢
      exact h.exI b u e'
  · have e' : upd w.F a o b = some u := e
    by_cases hb : b = a
    · subst hb
      rw [upd_same] at e'
      rw [ho, e']
    · rw [upd_ne hb] at e'
      exact h.exF b u e'
  · rcases cs j u eo with ⟨nj, e2⟩ | ⟨rfl, rfl⟩
    · have q := h.obj j b u eb e2
      cases u with
      | l ds =>
        obtain ⟨vs, z, r⟩ := q
        exact ⟨vs, z, r.mono hI⟩
      | dk ks ds =>
        obtain ⟨vs, z, hl, r⟩ := q
        exact ⟨vs, z, hl, r.mono hI⟩
      | fz x => exact Rp.mono hI q
    · have eb' : w.φ[j]? = some b := eb
      rw [ea] at eb'
      cases eb'
      exact hd
  · rcases cs j u eo with ⟨nj, e2⟩ | ⟨rfl, rfl⟩
    · show upd w.F a o b = none
      rw [upd_ne fun z => nj (h.inj j k b u y eb (by rw [ea, z]) e2 ek hf fy)]
      exact h.own j b u eb e2 hf
    · cases hf
  · rcases cs i u oi with ⟨ni, e1⟩ | ⟨rfl, rfl⟩
    · rcases cs j u' oj with ⟨nj, e2⟩ | ⟨rfl, rfl⟩
      · exact h.inj i j b u u' ei ej e1 e2 hf hf'
      · cases hf'
    · cases hf
end
end MR

namespace MR
open PySem PySem.Spec PyProof.Rows L2
/-! ### views -/
def asI : Sv → M Int
  | .d (.int i) => M.ok i
  | _ => M.no
def asS : Sv → M Str
  | .d (.str i) => M.ok i
  | _ => M.no
def asB : Sv → M Bool
  | .d (.bl i) => M.ok i
  | _ => M.no
/-- the items of a list -/
def asL : Sv → M (List D)
  | .d (.lst ds) => M.ok ds
  | .d (.lsf ds) => M.ok ds
  | .r k => fun m => match m[k]? with
    | some (.l ds) => some (.ok ds, m)
    | some (.fz (.lst ds)) => some (.ok ds, m)
    | _ => none
  | _ => M.no
/-- .. of a list that is no script -/
def asK : Sv → M (List D)
  | .d (.lst ds) => M.ok ds
  | .r k => fun m => match m[k]? with
    | some (.l ds) => some (.ok ds, m)
    | some (.fz (.lst ds)) => some (.ok ds, m)
    | _ => none
  | _ => M.no
def asU : Sv → M (List D)
  | .d (.tup ds) => M.ok ds
  | _ => M.no
/-- data: what was owned is owned no more -/
def toD : Sv → M D
  | .d x => M.ok x
  | .r k => fun m => match m[k]? with
    | some (.l ds) => some (.ok (.lst ds), m.set k (.fz (.lst ds)))
    | some (.dk ks ds) => some (.ok (.dk ks ds), m.set k (.fz (.dk ks ds)))
    | some (.fz x) => some (.ok x, m)
    | none => none
def toDs : List Sv → M (List D)
  | [] => M.ok []
  | x :: xs => (toD x).bd fun d => (toDs xs).bd fun ds => M.ok (d :: ds)
/-- a continuation of any kind -/
class Con (β : Type) where
  Po : (G : Gm) → (W : WX) → (σ : L2.St) → (R : Type) → (w : Wd) → Prop
section
variable {G : Gm} {W : WX} {σ : L2.St} {w : Wd} {m : Mem} {H : Hp} {Q : VK}
theorem CoE.run {a : M Sv} {r : Except Xc Sv × Mem} (c : CoE G W σ Q w a m) (e : a m = some r) : ∃ b : M Sv, b r.2 = some r ∧ CoE G W σ Q w b r.2 := by
  obtain ⟨x, m', e', p⟩ := c
  rw [e] at e'
  cases e'
  exact ⟨fun _ => some (x, m'), rfl, x, m', rfl, p⟩
theorem bd_ok {α β : Type} {x : α} {k : α → M β} {m : Mem} : (M.ok x).bd k m = k x m := rfl
theorem bd_of {α β : Type} {a : M α} {x : α} {m m' : Mem} {k : α → M β} (h : a m = some (.ok x, m')) : a.bd k m = k x m' := by
  unfold M.bd
  rw [h]
theorem CoE.eqm {a b : M Sv} {m m' : Mem} (c : CoE G W σ Q w a m) (h : a m = b m') : CoE G W σ Q w b m' := by
  obtain ⟨r, m2, e, p⟩ := c
  exact ⟨r, m2, by rw [← h]; exact e, p⟩
theorem CoT.eqm {Q : Bool → Hp → Prop} {a b : M Bool} {m m' : Mem} (c : CoT G W σ Q w a m) (h : a m = b m') : CoT G W σ Q w b m' := by
  obtain ⟨r, m2, e, p⟩ := c
  exact ⟨r, m2, by rw [← h]; exact e, p⟩
theorem CoE.none' {a : M Sv} {m : Mem} (c : CoE G W σ Q w a m) (h : a m = none) : False := by
  obtain ⟨r, m2, e, p⟩ := c
  rw [h] at e
  cases e
theorem CoT.none' {Q : Bool → Hp → Prop} {a : M Bool} {m : Mem} (c : CoT G W σ Q w a m) (h : a m = none) : False := by
  obtain ⟨r, m2, e, p⟩ := c
  rw [h] at e
  cases e
theorem CoE.at' {a : M Sv} {w' : Wd} (c : CoE G W σ Q w a m) (l : Wd.Le w w') : CoE G W σ Q w' a m := by
  obtain ⟨r, m2, e, p⟩ := c
  exact ⟨r, m2, e, p.at' l⟩
/-- what a view tells -/
theorem vI {x : Sv} {v : V} (h : RpS G.K w x v) : (∃ i, x = .d (.int i) ∧ v = .int i) ∨ ∀ (β : Type) (k : Int → M β) m, (asI x).bd k m = none := by
  cases x with
  | r k => exact .inr fun _ _ _ => rfl
  | d y =>
    cases y with
    | int i =>
      cases h
      exact .inl ⟨i, rfl, rfl⟩
    | _ => exact .inr fun _ _ _ => rfl
theorem vS {x : Sv} {v : V} (h : RpS G.K w x v) : (∃ i, x = .d (.str i) ∧ v = .str i) ∨ ∀ (β : Type) (k : Str → M β) m, (asS x).bd k m = none := by
  cases x with
  | r k => exact .inr fun _ _ _ => rfl
  | d y =>
    cases y with
    | str i =>
      cases h
      exact .inl ⟨i, rfl, rfl⟩
    | _ => exact .inr fun _ _ _ => rfl
theorem vB {x : Sv} {v : V} (h : RpS G.K w x v) : (∃ i, x = .d (.bl i) ∧ v = .bl i) ∨ ∀ (β : Type) (k : Bool → M β) m, (asB x).bd k m = none := by
  cases x with
  | r k => exact .inr fun _ _ _ => rfl
  | d y =>
    cases y with
    | bl i =>
      cases h
      exact .inl ⟨i, rfl, rfl⟩
    | _ => exact .inr fun _ _ _ => rfl
theorem vU {x : Sv} {v : V} (hm : Hm G.K w m H) (h : RpS G.K w x v) : (∃ a vs ds, x = .d (.tup ds) ∧ v = .ref a ∧ SqT G.K H a vs ∧ SqT G.K w.I a vs ∧ RpA G.K w.I vs ds) ∨ ∀ (β : Type) (k : List D → M β) m, (asU x).bd k m = none := by
  cases x with
  | r k => exact .inr fun _ _ _ => rfl
  | d y =>
    cases y with
    | tup ds =>
      cases h with
      | tup h1 h2 => exact .inl ⟨_, _, ds, rfl, rfl, (hm.exI.trans hm.exF).st h1, h1, h2⟩
    | _ => exact .inr fun _ _ _ => rfl
theorem vL {x : Sv} {v : V} (hm : Hm G.K w m H) (h : RpS G.K w x v) : (∃ a vs ds, asL x m = some (.ok ds, m) ∧ v = .ref a ∧ SqL G.K H a vs ∧ RpA G.K w.I vs ds) ∨ ∀ (β : Type) (k : List D → M β), (asL x).bd k m = none := by
  cases x with
  | r k =>
    obtain ⟨a, ea, rfl⟩ := h
    cases e : m[k]? with
    | none =>
      refine .inr fun β k' => ?_
      unfold M.bd asL
      simp only [e]
    | some o =>
      have q := hm.obj k a o ea e
      cases o with
      | l ds =>
        obtain ⟨vs, z, r⟩ := q
        refine .inl ⟨a, vs, ds, ?_, rfl, .inl (.inl z), r⟩
        unfold asL
        simp only [e]
      | dk ks ds =>
        refine .inr fun β k' => ?_
        unfold M.bd asL
        simp only [e]
      | fz d =>
        cases d with
        | lst ds =>
          cases q with
          | lst h1 h2 =>
            refine .inl ⟨a, _, ds, ?_, rfl, .inl (.inl ((hm.exI.trans hm.exF) _ _ h1)), h2⟩
            unfold asL
            simp only [e]
        | _ =>
          refine .inr fun β k' => ?_
          unfold M.bd asL
          simp only [e]
  | d y =>
    cases y with
    | lst ds =>
      cases h with
      | lst h1 h2 => exact .inl ⟨_, _, ds, rfl, rfl, .inl (.inl ((hm.exI.trans hm.exF) _ _ h1)), h2⟩
    | lsf ds =>
      cases h with
      | lsf h1 h2 => exact .inl ⟨_, _, ds, rfl, rfl, (hm.exI.trans hm.exF).sl h1, h2⟩
    | _ => exact .inr fun _ _ => rfl
theorem vK {x : Sv} {v : V} (hm : Hm G.K w m H) (h : RpS G.K w x v) : (∃ a vs ds, asK x m = some (.ok ds, m) ∧ v = .ref a ∧ H a = some (.lst vs) ∧ RpA G.K w.I vs ds) ∨ ∀ (β : Type) (k : List D → M β), (asK x).bd k m = none := by
  cases x with
  | r k =>
    obtain ⟨a, ea, rfl⟩ := h
    cases e : m[k]? with
    | none =>
      refine .inr fun β k' => ?_
      unfold M.bd asK
      simp only [e]
    | some o =>
      have q := hm.obj k a o ea e
      cases o with
      | l ds =>
        obtain ⟨vs, z, r⟩ := q
        refine .inl ⟨a, vs, ds, ?_, rfl, z, r⟩
        unfold asK
        simp only [e]
      | dk ks ds =>
        refine .inr fun β k' => ?_
        unfold M.bd asK
        simp only [e]
      | fz d =>
        cases d with
        | lst ds =>
          cases q with
          | lst h1 h2 =>
            refine .inl ⟨a, _, ds, ?_, rfl, (hm.exI.trans hm.exF) _ _ h1, h2⟩
            unfold asK
            simp only [e]
        | _ =>
          refine .inr fun β k' => ?_
          unfold M.bd asK
          simp only [e]
  | d y =>
    cases y with
    | lst ds =>
      cases h with
      | lst h1 h2 => exact .inl ⟨_, _, ds, rfl, rfl, (hm.exI.trans hm.exF) _ _ h1, h2⟩
    | _ => exact .inr fun _ _ => rfl
/-- data out of a slot's value -/
theorem vD {x : Sv} {v : V} {m : Mem} {H : Hp} {w : Wd} (hm : Hm G.K w m H) (h : RpS G.K w x v) : (∃ d m' w', toD x m = some (.ok d, m') ∧ Wd.Le w w' ∧ Hm G.K w' m' H ∧ Rp G.K w'.I v d) ∨ toD x m = none := by
  cases x with
  | d y => exact .inl ⟨y, m, w, rfl, Wd.Le.refl w, hm, h⟩
  | r k =>
    obtain ⟨a, ea, rfl⟩ := h
    cases e : m[k]? with
    | none =>
      refine .inr ?_
      unfold toD
      simp only [e]
    | some o =>
      have q := hm.obj k a o ea e
      cases o with
      | l ds =>
        obtain ⟨vs, z, r⟩ := q
        have l := Wd.frz_le hm (.lst vs) ea e rfl
        have hd : Rp G.K (upd w.I a (.lst vs)) (.ref a) (.lst ds) := .lst upd_same (r.mono l.I)
        refine .inl ⟨.lst ds, _, _, ?_, l, hm.frz ea e rfl z hd, hd⟩
        unfold toD
        simp only [e]
      | dk ks ds =>
        obtain ⟨vs, z, hl, r⟩ := q
        have l := Wd.frz_le hm (.dK (ks.zip vs)) ea e rfl
        have hd : Rp G.K (upd w.I a (.dK (ks.zip vs))) (.ref a) (.dk ks ds) := .dk upd_same hl (r.mono l.I)
        refine .inl ⟨.dk ks ds, _, _, ?_, l, hm.frz ea e rfl z hd, hd⟩
        unfold toD
        simp only [e]
      | fz d =>
        refine .inl ⟨d, m, w, ?_, Wd.Le.refl w, hm, q⟩
        unfold toD
        simp only [e]
theorem vDs : ∀ {xs : List Sv} {vs : List V} {m : Mem} {w : Wd}, Hm G.K w m H → RpL G.K w xs vs → (∃ ds m' w', toDs xs m = some (.ok ds, m') ∧ Wd.Le w w' ∧ Hm G.K w' m' H ∧ RpA G.K w'.I vs ds) ∨ toDs xs m = none
  | _, _, m, w, hm, .nil => .inl ⟨[], m, w, rfl, Wd.Le.refl w, hm, .nil⟩
  | _, _, m, w, hm, .cons a b => by
    rcases vD hm a with ⟨d, m1, w1, e1, l1, h1, r1⟩ | e1
    · rcases vDs h1 (b.mono l1) with ⟨ds, m2, w2, e2, l2, h2, r2⟩ | e2
      · refine .inl ⟨d :: ds, m2, w2, ?_, l1.trans l2, h2, .cons (r1.mono l2.I) r2⟩
        show M.bd _ _ _ = _
        rw [bd_of e1, bd_of e2]
        rfl
      · refine .inr ?_
        show M.bd _ _ _ = _
        rw [bd_of e1]
        unfold M.bd
        rw [e2]
    · refine .inr ?_
      show M.bd _ _ _ = _
      unfold M.bd
      rw [e1]
end
/-! ### expressions -/
section
variable {X : Cx} {G : Gm} {W : WX} {a b c e : Expr} {es : List Expr} {fa fb fc : Env → M Sv} {fs : Env → M (List Sv)} {pos : Pos}
theorem _root_.L2.PE.imp {t u : TE} (h : PE X e t) (i : ∀ σ H Q, u σ H Q → t σ H Q) : PE X e u := ⟨fun pins s σ H Q I q => h.run pins s σ H Q I (i σ H Q q)⟩
theorem _root_.L2.PT.imp {t u : TT} (h : PT X e t) (i : ∀ σ H Q, u σ H Q → t σ H Q) : PT X e u := ⟨fun pins s σ H Q I q => h.run pins s σ H Q I (i σ H Q q)⟩
theorem _root_.L2.PW.imp {t u : TT} (h : PW X e t) (i : ∀ σ H Q, u σ H Q → t σ H Q) : PW X e u := ⟨fun wh pins s σ H Q I q => h.run wh pins s σ H Q I (i σ H Q q)⟩
theorem _root_.L2.PA.imp {t u : TA} (h : PA X es t) (i : ∀ σ H Q, u σ H Q → t σ H Q) : PA X es u := ⟨fun p pins s σ H Q I q => h.run p pins s σ H Q I (i σ H Q q)⟩
theorem _root_.L2.PS.imp {st : Stmt} {t u : TS} (h : PS X st t) (i : ∀ D σ H, u D σ H → t D σ H) : PS X st u := ⟨fun pins s σ H D I q => h.run pins s σ H D I (i D σ H q)⟩
theorem _root_.L2.PSs.imp {st : List Stmt} {t u : TS} (h : PSs X st t) (i : ∀ D σ H, u D σ H → t D σ H) : PSs X st u := ⟨fun pins s σ H D I q => h.run pins s σ H D I (i D σ H q)⟩
/-- by one rule or the other -/
theorem _root_.L2.PE.or {t u : TE} (h : PE X e t) (g : PE X e u) : PE X e (fun σ H Q => t σ H Q ∨ u σ H Q) := ⟨fun pins s σ H Q I q => q.elim (h.run pins s σ H Q I) (g.run pins s σ H Q I)⟩

def fVar (i : Nat) : Env → M Sv := fun env m => match env[i]? with
  | some (some x) => some (.ok x, m)
  | _ => none
def fC (x : D) : Env → M Sv := fun _ => M.ok (.d x)
theorem ie_var (i : Nat) {x : Str} {pos : Pos} (hN : X.N[i]? = some x := by rfl) (hv : Vis X.env.scope x := by first | exact Or.inl rfl | exact Or.inr (Or.inl rfl) | exact Or.inr (Or.inr rfl)) (hd : (x == ("__debug__" : Str)) = false := by decide)
    (hcd : (x == ("__classdict__" : Str)) = false := by decide) : PE X (.Name x pos) (tI G W (fVar i)) :=
  (pe_var hN hv hd hcd).imp fun σ H Q ⟨w, env, m, hm, he, r, m', e, p⟩ => by
    unfold fVar at e
    split at e
    · rename_i x hx
      cases e
      obtain ⟨v, hv, hr⟩ := he.at' i _ hx
      exact ⟨v, hv, p w H (Wd.Le.refl w) hm v hr⟩
    · cases e
theorem ie_c {t : TE} {x : D} {v : V} (h : PE X e (tC v)) (r : ∀ I, Rp G.K I v x) : PE X e (tI G W (fC x)) :=
  h.imp fun σ H Q ⟨w, env, m, hm, he, c⟩ => c.ret hm (r w.I)
theorem ie_int {i : Int} {j : Nat} {pos : Pos} : PE X (.Constant (.int i) j pos) (tI G W (fC (.int i))) := ie_c (t := tC (.int i)) pe_int fun _ => .int i
theorem ie_str {x : Str} {j : Nat} {pos : Pos} : PE X (.Constant (.str x) j pos) (tI G W (fC (.str x))) := ie_c (t := tC (.str x)) pe_str fun _ => .str x
theorem ie_bl {x : Bool} {j : Nat} {pos : Pos} : PE X (.Constant (.bool x) j pos) (tI G W (fC (.bl x))) := ie_c (t := tC (.bl x)) pe_bl fun _ => .bl x
theorem ie_non {j : Nat} {pos : Pos} : PE X (.Constant .none j pos) (tI G W (fC .non)) := ie_c (t := tC .non) pe_non fun _ => .non
/-- a global name of the module or a builtin, as a value -/
theorem ie_glob {x : Str} {d : D} {v : V} {u : Value} {pos : Pos} (hg : Gl X x) (hm : X.mg x = some u) (r : RelV v u) (rd : ∀ I, Rp G.K I v d) (hd : (x == ("__debug__" : Str)) = false := by decide) : PE X (.Name x pos) (tI G W (fC d)) :=
  ie_c (t := tC v) (pe_glob hg hm r hd) rd
theorem ie_bltn {x : Str} {v : V} {u : Value} {pos : Pos} (hg : Gl X x) (hm : X.mg x = none) (hv : bootBuiltins x = some u) (r : RelV v u) (hn : x ≠ "__name__" := by decide) (hd : (x == ("__debug__" : Str)) = false := by decide) : PE X (.Name x pos) (tI G W (fC (.raw v))) :=
  ie_c (t := tC v) (pe_bltn hg hm hv r hn hd) fun _ => .raw v
/-! argument lists -/
def fNil : Env → M (List Sv) := fun _ => M.ok []
def fCons (f : Env → M Sv) (g : Env → M (List Sv)) : Env → M (List Sv) := fun env => (f env).bd fun x => (g env).bd fun xs => M.ok (x :: xs)
theorem ia_nil : PA X [] (tA G W fNil) := pa_nil.imp fun σ H Q ⟨w, env, m, hm, he, c⟩ => c.ret hm .nil
theorem ia_cons (ha : PE X e (tI G W fa)) (hr : PA X es (tA G W fs)) (hs : starEach (e :: es) X.env = (false, eval e X.env) :: starEach es X.env := by rfl) : PA X (e :: es) (tA G W (fCons fa fs)) :=
  (pa_cons ha hr hs).imp fun σ H Q ⟨w, env, m, hm, he, c⟩ => ⟨w, env, m, hm, he, bdEA c fun w1 m1 H1 x v l1 hm1 hx c1 => ⟨w1, env, m1, hm1, he.mono l1, bdAA c1 fun w2 m2 H2 xs vs l2 hm2 hxs c2 => c2.ret hm2 (.cons (hx.mono l2) hxs)⟩⟩
/-! operators by what they give -/
/-- the operation g is what r asks -/
def Snd2 (G : Gm) (r : R2) (g : Sv → Sv → M Sv) : Prop := ∀ (W : WX) (σ : L2.St) (w : Wd) (m : Mem) (H : Hp) (x y : Sv) (v u : V) (Q : VK), Hm G.K w m H → RpS G.K w x v → RpS G.K w y u → CoE G W σ Q w (g x y) m → r v u H Q
def Snd1 (G : Gm) (r : V → Hp → VK → Prop) (g : Sv → M Sv) : Prop := ∀ (W : WX) (σ : L2.St) (w : Wd) (m : Mem) (H : Hp) (x : Sv) (v : V) (Q : VK), Hm G.K w m H → RpS G.K w x v → CoE G W σ Q w (g x) m → r v H Q
def SndL (G : Gm) (r : List V → Hp → VK → Prop) (g : List Sv → M Sv) : Prop := ∀ (W : WX) (σ : L2.St) (w : Wd) (m : Mem) (H : Hp) (x : List Sv) (v : List V) (Q : VK), Hm G.K w m H → RpL G.K w x v → CoE G W σ Q w (g x) m → r v H Q
def f2 (g : Sv → Sv → M Sv) (fa fb : Env → M Sv) : Env → M Sv := fun env => (fa env).bd fun x => (fb env).bd fun y => g x y
def f1 (g : Sv → M Sv) (fa : Env → M Sv) : Env → M Sv := fun env => (fa env).bd g
def fL (g : List Sv → M Sv) (fs : Env → M (List Sv)) : Env → M Sv := fun env => (fs env).bd g
theorem ie_op2 {op : Operator} {r : R2} {g : Sv → Sv → M Sv} (hg : Snd2 G r g) (ho : OpR X (binaryOp op) r) (ha : PE X a (tI G W fa)) (hb : PE X b (tI G W fb)) : PE X (.BinOp a op b pos) (tI G W (f2 g fa fb)) :=
  (pe_op ho ha hb).imp fun σ H Q ⟨w, env, m, hm, he, c⟩ => ⟨w, env, m, hm, he, bdEE c fun w1 m1 H1 x v l1 hm1 hx c1 => ⟨w1, env, m1, hm1, he.mono l1, bdEE c1 fun w2 m2 H2 y u l2 hm2 hy c2 => hg W σ w2 m2 H2 x y v u Q hm2 (hx.mono l2) hy c2⟩⟩
theorem ie_cmp2 {op : CmpOp} {r : R2} {g : Sv → Sv → M Sv} (hg : Snd2 G r g) (ho : OpR X (compareOp op) r) (ha : PE X a (tI G W fa)) (hb : PE X b (tI G W fb)) (hm : behindInMarks op b = false) : PE X (.Compare a [op] [b] pos) (tI G W (f2 g fa fb)) :=
  (pe_cmpR ho ha hb hm).imp fun σ H Q ⟨w, env, m, hm, he, c⟩ => ⟨w, env, m, hm, he, bdEE c fun w1 m1 H1 x v l1 hm1 hx c1 => ⟨w1, env, m1, hm1, he.mono l1, bdEE c1 fun w2 m2 H2 y u l2 hm2 hy c2 => hg W σ w2 m2 H2 x y v u Q hm2 (hx.mono l2) hy c2⟩⟩
/-- a test: a value that is a bool -/
def fB (f : Env → M Sv) : Env → M Bool := fun env => (f env).bd asB
theorem co_test {Q : Bool → Hp → Prop} {σ : L2.St} {w : Wd} {m : Mem} {f : M Sv} (c : CoT G W σ Q w (f.bd asB) m) : CoE G W σ (fun x H' => ∃ k, x = .bl k ∧ Q k H') w f m :=
  bdET c fun w1 m1 H1 x v l1 hm1 hx c1 => by
    rcases vB hx with ⟨i, rfl, rfl⟩ | n
    · exact ⟨i, rfl, c1.ret hm1⟩
    · have z := n Bool M.ok m1
      have : asB x m1 = none := by
        unfold M.bd at z
        cases e : asB x m1 with
        | none => rfl
        | some p =>
          obtain ⟨r, m2⟩ := p
          rw [e] at z
          cases r <;> cases z
      exact (c1.none' this).elim
theorem it_cmp2 {op : CmpOp} {r : R2} {g : Sv → Sv → M Sv} (hg : Snd2 G r g) (ho : OpR X (compareOp op) r) (ha : PE X a (tI G W fa)) (hb : PE X b (tI G W fb)) (hm : behindInMarks op b = false) : PT X (.Compare a [op] [b] pos) (tT G W (fB (f2 g fa fb))) :=
  (pt_cmpR ho ha hb hm).imp fun σ H Q ⟨w, env, m, hm, he, c⟩ => ⟨w, env, m, hm, he, bdEE (co_test c) fun w1 m1 H1 x v l1 hm1 hx c1 => ⟨w1, env, m1, hm1, he.mono l1, bdEE c1 fun w2 m2 H2 y u l2 hm2 hy c2 => hg W σ w2 m2 H2 x y v u _ hm2 (hx.mono l2) hy c2⟩⟩
theorem it_val (h : PE X e (tI G W fa)) (he : ∀ whole, isTrue e X.env whole = (do let v ← whole; standAt e.pos; holding [v] (truthy v)) := by intro _; rfl) : PT X e (tT G W (fB fa)) :=
  (pt_val h he).imp fun σ H Q ⟨w, env, m, hm, he, c⟩ => ⟨w, env, m, hm, he, co_test c⟩
def fAnd (f g : Env → M Bool) : Env → M Bool := fun env => (f env).bd fun c => if c = true then g env else M.ok false
def fOr (f g : Env → M Bool) : Env → M Bool := fun env => (f env).bd fun c => if c = true then M.ok true else g env
def fNot (f : Env → M Bool) : Env → M Bool := fun env => (f env).bd fun c => M.ok (!c)
section
variable {rest : List Expr} {ga gb : Env → M Bool}
theorem it_pw {e : Expr} {t : TT} (h : PW X e t) : PT X e t := h.pt
theorem iw_and1 (ha : PT X a (tT G W ga)) : PW X (.BoolOp .And [a] pos) (tT G W ga) := pw_and1 ha
theorem iw_or1 (ha : PT X a (tT G W ga)) : PW X (.BoolOp .Or [a] pos) (tT G W ga) := pw_or1 ha
theorem iw_and (ha : PT X a (tT G W ga)) (hb : PW X (.BoolOp .And (b :: rest) pos) (tT G W gb)) : PW X (.BoolOp .And (a :: b :: rest) pos) (tT G W (fAnd ga gb)) :=
  (pw_and ha hb).imp fun σ H Q ⟨w, env, m, hm, he, c⟩ => ⟨w, env, m, hm, he, bdTT c fun w1 m1 H1 x l1 hm1 c1 => by
    cases x with
    | true =>
      show tT G W gb σ H1 Q
      exact ⟨w1, env, m1, hm1, he.mono l1, c1⟩
    | false =>
      show Q false H1
      exact c1.ret hm1⟩
theorem iw_or (ha : PT X a (tT G W ga)) (hb : PW X (.BoolOp .Or (b :: rest) pos) (tT G W gb)) : PW X (.BoolOp .Or (a :: b :: rest) pos) (tT G W (fOr ga gb)) :=
  (pw_or ha hb).imp fun σ H Q ⟨w, env, m, hm, he, c⟩ => ⟨w, env, m, hm, he, bdTT c fun w1 m1 H1 x l1 hm1 c1 => by
    cases x with
    | true =>
      show Q true H1
      exact c1.ret hm1
    | false =>
      show tT G W gb σ H1 Q
      exact ⟨w1, env, m1, hm1, he.mono l1, c1⟩⟩
theorem it_not (ha : PT X a (tT G W ga)) : PT X (.UnaryOp .Not a pos) (tT G W (fNot ga)) :=
  (pt_not ha).imp fun σ H Q ⟨w, env, m, hm, he, c⟩ => ⟨w, env, m, hm, he, bdTT c fun w1 m1 H1 x l1 hm1 c1 => c1.ret hm1⟩
/-- and, or, not as values -/
def fAndV (f g : Env → M Sv) : Env → M Sv := fun env => (f env).bd fun x => (asB x).bd fun c => if c = true then g env else M.ok (.d (.bl false))
def fOrV (f g : Env → M Sv) : Env → M Sv := fun env => (f env).bd fun x => (asB x).bd fun c => if c = true then M.ok (.d (.bl true)) else g env
def fNotV (f : Env → M Sv) : Env → M Sv := fun env => (f env).bd fun x => (asB x).bd fun c => M.ok (.d (.bl (!c)))
theorem ie_one {op : BoolOp} (h : PE X a (tI G W fa)) : PE X (.BoolOp op [a] pos) (tI G W fa) := pe_one h
theorem ie_and (ha : PE X a (tI G W fa)) (hb : PE X (.BoolOp .And (b :: rest) pos) (tI G W fb)) : PE X (.BoolOp .And (a :: b :: rest) pos) (tI G W (fAndV fa fb)) :=
  (pe_and ha hb).imp fun σ H Q ⟨w, env, m, hm, he, c⟩ => ⟨w, env, m, hm, he, bdEE c fun w1 m1 H1 x v l1 hm1 hx c1 => by
    rcases vB hx with ⟨i, rfl, rfl⟩ | n
    · refine ⟨i, rfl, ?_⟩
      cases i with
      | true =>
        show tI G W fb σ H1 Q
        exact ⟨w1, env, m1, hm1, he.mono l1, c1⟩
      | false =>
        show Q (.bl false) H1
        exact CoE.ret (x := .d (.bl false)) c1 hm1 (Rp.bl false)
    · exact (c1.none' (n _ _ _)).elim⟩
theorem ie_or (ha : PE X a (tI G W fa)) (hb : PE X (.BoolOp .Or (b :: rest) pos) (tI G W fb)) : PE X (.BoolOp .Or (a :: b :: rest) pos) (tI G W (fOrV fa fb)) :=
  (pe_or ha hb).imp fun σ H Q ⟨w, env, m, hm, he, c⟩ => ⟨w, env, m, hm, he, bdEE c fun w1 m1 H1 x v l1 hm1 hx c1 => by
    rcases vB hx with ⟨i, rfl, rfl⟩ | n
    · refine ⟨i, rfl, ?_⟩
      cases i with
      | true =>
        show Q (.bl true) H1
        exact CoE.ret (x := .d (.bl true)) c1 hm1 (Rp.bl true)
      | false =>
        show tI G W fb σ H1 Q
        exact ⟨w1, env, m1, hm1, he.mono l1, c1⟩
    · exact (c1.none' (n _ _ _)).elim⟩
theorem ie_not (ha : PE X a (tI G W fa)) : PE X (.UnaryOp .Not a pos) (tI G W (fNotV fa)) :=
  (pe_not ha).imp fun σ H Q ⟨w, env, m, hm, he, c⟩ => ⟨w, env, m, hm, he, bdEE c fun w1 m1 H1 x v l1 hm1 hx c1 => by
    rcases vB hx with ⟨i, rfl, rfl⟩ | n
    · exact ⟨i, rfl, CoE.ret (x := .d (.bl (!i))) c1 hm1 (Rp.bl _)⟩
    · exact (c1.none' (n _ _ _)).elim⟩
def fIf (c : Env → M Bool) (f g : Env → M Sv) : Env → M Sv := fun env => (c env).bd fun k => if k = true then f env else g env
theorem ie_if (hc : PT X c (tT G W ga)) (ha : PE X a (tI G W fa)) (hb : PE X b (tI G W fb)) : PE X (.IfExp c a b pos) (tI G W (fIf ga fa fb)) :=
  (pe_ifExp hc ha hb).imp fun σ H Q ⟨w, env, m, hm, he, c⟩ => ⟨w, env, m, hm, he, bdTE c fun w1 m1 H1 x l1 hm1 c1 => by
    cases x with
    | true =>
      show tI G W fa σ H1 Q
      exact ⟨w1, env, m1, hm1, he.mono l1, c1⟩
    | false =>
      show tI G W fb σ H1 Q
      exact ⟨w1, env, m1, hm1, he.mono l1, c1⟩⟩
end
/-! displays -/
def gTup (xs : List Sv) : M Sv := (toDs xs).bd fun ds => M.if (ds.length ≤ sizeLine) (M.ok (.d (.tup ds)))
/-- new things -/
theorem new_tup {σ : L2.St} {w : Wd} {m : Mem} {H : Hp} {Q : VK} {ds : List D} {vs : List V} (hm : Hm G.K w m H) (h : RpA G.K w.I vs ds) (c : CoE G W σ Q w (M.ok (.d (.tup ds))) m) {p : Addr} (hp : H p = none) : Q (.ref p) (upd H p (.tup vs)) := by
  have l := Wd.imm_le hm (.tup vs) hp
  exact c.retW l (hm.imm (.tup vs) hp) (Rp.tup (.inl (.inl upd_same)) (h.mono l.I))
theorem new_lst {σ : L2.St} {w : Wd} {m : Mem} {H : Hp} {Q : VK} {ds : List D} {vs : List V} (hm : Hm G.K w m H) (h : RpA G.K w.I vs ds) (c : CoE G W σ Q w (fun m => some (.ok (.r m.length), m ++ [.l ds])) m) {p : Addr} (hp : H p = none) : Q (.ref p) (upd H p (.lst vs)) := by
  obtain ⟨r, m', e, q⟩ := c
  cases e
  have hx : RpM G.K w.I (upd H p (.lst vs)) p (.l ds) := ⟨vs, upd_same, h⟩
  refine q _ _ (Wd.new_le w p) (hm.new hp hx) _ ⟨p, ?_, rfl⟩
  show (w.φ ++ [p])[m.length]? = some p
  rw [List.getElem?_append_right (by rw [hm.len]; exact Nat.le_refl _), hm.len, Nat.sub_self]
  rfl
theorem ie_tup {x1 : Nat} (h : PA X es (tA G W fs)) : PE X (.Tuple es x1 pos) (tI G W (fL gTup fs)) :=
  (pe_tup h).imp fun σ H Q ⟨w, env, m, hm, he, c⟩ => ⟨w, env, m, hm, he, bdAE c fun w1 m1 H1 xs vs l1 hm1 hx c1 => by
    rcases vDs hm1 hx with ⟨ds, m2, w2, e2, l2, h2, r2⟩ | e2
    · have c2 := (c1.eqm (bd_of e2)).at' l2
      obtain ⟨hs, c3⟩ := c2.ifc
      exact ⟨by rw [r2.length]; exact hs, fun p hp => new_tup h2 r2 c3 hp⟩
    · exact (c1.none' (by unfold gTup M.bd; rw [e2])).elim⟩
end
end MR

namespace MR
open PySem PySem.Spec PyProof.Rows L2
/-! ### new lists: for good, or owned -/
def mkL (o : Bool) (ds : List D) : M Sv := fun m => if ds.length ≤ sizeLine then (if o = true then some (.ok (.r m.length), m ++ [.l ds]) else some (.ok (.d (.lst ds)), m)) else none
section
variable {X : Cx} {G : Gm} {W : WX} {a b c e : Expr} {es : List Expr} {fa fb fc : Env → M Sv} {fs : Env → M (List Sv)} {pos : Pos}
theorem mkL_len {σ : L2.St} {w : Wd} {m : Mem} {Q : VK} {o : Bool} {ds : List D} (c : CoE G W σ Q w (mkL o ds) m) : ds.length ≤ sizeLine := by
  obtain ⟨r, m', e, q⟩ := c
  unfold mkL at e
  split at e
  · assumption
  · cases e
theorem new_list {σ : L2.St} {w : Wd} {m : Mem} {H : Hp} {Q : VK} {o : Bool} {ds : List D} {vs : List V} (hm : Hm G.K w m H) (h : RpA G.K w.I vs ds) (c : CoE G W σ Q w (mkL o ds) m) {p : Addr} (hp : H p = none) : Q (.ref p) (upd H p (.lst vs)) := by
  have hl := mkL_len c
  cases o with
  | true => exact new_lst hm h (c.eqm (by unfold mkL; rw [if_pos hl, if_pos rfl])) hp
  | false =>
    have c2 : CoE G W σ Q w (M.ok (.d (.lst ds))) m := c.eqm (by unfold mkL; rw [if_pos hl, if_neg Bool.false_ne_true]; rfl)
    have l := Wd.imm_le hm (.lst vs) hp
    exact c2.retW l (hm.imm (.lst vs) hp) (Rp.lst upd_same (h.mono l.I))
def gLst (o : Bool) (xs : List Sv) : M Sv := (toDs xs).bd fun ds => mkL o ds
theorem ie_lst (o : Bool) (h : PA X es (tA G W fs)) : PE X (.List es pos) (tI G W (fL (gLst o) fs)) :=
  (pe_lst h).imp fun σ H Q ⟨w, env, m, hm, he, c⟩ => ⟨w, env, m, hm, he, bdAE c fun w1 m1 H1 xs vs l1 hm1 hx c1 => by
    rcases vDs hm1 hx with ⟨ds, m2, w2, e2, l2, h2, r2⟩ | e2
    · have c2 := (c1.eqm (bd_of e2)).at' l2
      exact ⟨by rw [r2.length]; exact mkL_len c2, fun p hp => new_list h2 r2 c2 hp⟩
    · exact (c1.none' (by unfold gLst M.bd; rw [e2])).elim⟩
/-- what was owned is owned no more -/
def fFz (f : Env → M Sv) : Env → M Sv := fun env => (f env).bd fun x => (toD x).bd fun d => M.ok (.d d)
theorem ie_fz (h : PE X e (tI G W fa)) : PE X e (tI G W (fFz fa)) :=
  h.imp fun σ H Q ⟨w, env, m, hm, he, c⟩ => ⟨w, env, m, hm, he, bdEE c fun w1 m1 H1 x v l1 hm1 hx c1 => by
    rcases vD hm1 hx with ⟨d, m2, w2, e2, l2, h2, r2⟩ | e2
    · exact ((c1.eqm (bd_of e2)).at' l2).ret h2 r2
    · exact (c1.none' (by unfold M.bd; rw [e2])).elim⟩
end

/-! ### targets -/
inductive Tg where
  | nm (i : Nat) | tp (l : List Tg)
mutual
/-- a target is given data -/
def setT : Tg → D → Env → Option Env
  | .nm i, d, env => some (env.set i (some (.d d)))
  | .tp l, .tup ds, env => setTs l ds env
  | .tp _, _, _ => none
def setTs : List Tg → List D → Env → Option Env
  | [], [], env => some env
  | t :: ts, d :: ds, env => match setT t d env with
    | some env1 => setTs ts ds env1
    | none => none
  | _, _, _ => none
end
mutual
def gT (K : PySem.W.Frag) : Tg → TG
  | .nm i => gName i
  | .tp l => L2.gTup K l.length (gTs K l)
def gTs (K : PySem.W.Frag) : List Tg → TGs
  | [] => gNil
  | t :: ts => gCons (gT K t) (gTs K ts)
end
mutual
def slotsT : Tg → List Nat
  | .nm i => [i]
  | .tp l => slotsTs l
def slotsTs : List Tg → List Nat
  | [] => []
  | t :: ts => slotsT t ++ slotsTs ts
end
section
variable {X : Cx} {G : Gm}
theorem pT_nm {i : Nat} {x : Str} {pos : Pos} (hN : X.N.Nodup) (hi : X.N[i]? = some x) (hx : Loc X.env.scope x) (hf : X.fn x = true ∨ X.env.scope.names.lookup x = some .local := by first | exact .inl rfl | exact .inr rfl | assumption) : PG X (.Name x pos) (gT G.K (.nm i)) := by
  unfold gT
  exact pg_name hN hi hx hf
theorem pTs_nil : PGs X [] (gTs G.K []) := by
  unfold gTs
  exact pgs_nil
theorem pTs_cons {e : Expr} {es : List Expr} {t : Tg} {u : List Tg} (h1 : PG X e (gT G.K t)) (h2 : PGs X es (gTs G.K u))
    (hs : (assignEach (e :: es) X.env).map (·.2) = assign e X.env :: (assignEach es X.env).map (·.2) := by rfl) : PGs X (e :: es) (gTs G.K (t :: u)) := by
  unfold gTs
  exact pgs_cons h1 h2 hs
theorem pT_tp {es : List Expr} {k : Nat} {t : List Tg} {pos : Pos} (hK : G.K = X.K) (hc : X.calm = true) (h : PGs X es (gTs G.K t))
    (hn : (assignEach es X.env).length = t.length := by rfl) (hst : (assignEach es X.env).findIdx? (·.1) = none := by rfl) : PG X (.Tuple es k pos) (gT G.K (.tp t)) := by
  unfold gT
  rw [hK] at h ⊢
  exact pg_tup hc h hn hst
/-- σ' is σ but at some slots -/
def Away (vs : List Nat) (σ σ' : L2.St) : Prop := σ'.length = σ.length ∧ ∀ i, i ∉ vs → σ'[i]? = σ[i]?
theorem Away.refl {vs : List Nat} {σ : L2.St} : Away vs σ σ := ⟨rfl, fun _ _ => rfl⟩
theorem Away.trans {vs : List Nat} {σ τ υ : L2.St} (a : Away vs σ τ) (b : Away vs τ υ) : Away vs σ υ := ⟨b.1.trans a.1, fun i h => (b.2 i h).trans (a.2 i h)⟩
theorem Away.mono {vs us : List Nat} {σ τ : L2.St} (a : Away vs σ τ) (h : ∀ i ∈ vs, i ∈ us) : Away us σ τ := ⟨a.1, fun i hi => a.2 i fun z => hi (h i z)⟩
theorem Away.wipe : ∀ {vs : List Nat} {σ τ : L2.St}, Away vs σ τ → L2.wipe τ vs = L2.wipe σ vs := fun {vs σ τ} a => by
  refine List.ext_getElem? fun i => ?_
  have key : ∀ (us : List Nat) (ρ : L2.St), (L2.wipe ρ us)[i]? = if i ∈ us then (if i < ρ.length then some none else none) else ρ[i]? := by
    intro us ρ
    induction us with
    | nil => simp [L2.wipe]
    | cons v us ih =>
      show ((L2.wipe ρ us).set v none)[i]? = _
      by_cases hv : v = i
      · subst hv
        by_cases hl : v < ρ.length
        · rw [List.getElem?_set_self (by rw [wipe_length]; exact hl)]
          simp [hl]
        · rw [List.getElem?_eq_none (by rw [List.length_set, wipe_length]; omega)]
          simp [hl]
      · rw [List.getElem?_set_ne hv, ih]
        have : i ∈ v :: us ↔ i ∈ us := by
          rw [List.mem_cons]
          exact ⟨fun h => h.elim (fun z => absurd z.symm hv) id, .inr⟩
        by_cases hm : i ∈ us
        · rw [if_pos hm, if_pos (this.mpr hm)]
        · rw [if_neg hm, if_neg fun z => hm (this.mp z)]
  rw [key, key, a.1]
  by_cases h : i ∈ vs
  · rw [if_pos h, if_pos h]
  · rw [if_neg h, if_neg h, a.2 i h]
mutual
theorem setT_ok {w : Wd} {m : Mem} {H : Hp} {Q : L2.St → Hp → Prop} (hm : Hm G.K w m H) : ∀ (t : Tg) {d : D} {v : V} {env env' : Env} {σ : L2.St}, Rp G.K w.I v d → RpE G.K w env σ → setT t d env = some env' →
    (∀ σ', Away (slotsT t) σ σ' → RpE G.K w env' σ' → Q σ' H) → gT G.K t v σ H Q
  | .nm i, d, v, env, env', σ, hv, he, e, q => by
    unfold setT at e
    cases e
    unfold gT
    refine q _ ⟨by rw [List.length_set], fun j hj => ?_⟩ (he.set i (x := .d d) hv)
    rw [List.getElem?_set_ne]
    intro z
    subst z
    exact hj (by unfold slotsT; exact List.mem_singleton.mpr rfl)
  | .tp l, d, v, env, env', σ, hv, he, e, q => by
    cases d with
    | tup ds =>
      unfold setT at e
      cases hv with
      | @tup a vs _ h1 h2 =>
        unfold gT
        have hl := setTs_len l ds env env' e
        refine ⟨a, vs, rfl, (hm.exI.trans hm.exF).st h1, by rw [h2.length]; exact hl, setTs_ok hm l h2 he e fun σ' aw r => q σ' (by unfold slotsT; exact aw) r⟩
    | _ =>
      unfold setT at e
      cases e
theorem setTs_len : ∀ (l : List Tg) (ds : List D) (env env' : Env), setTs l ds env = some env' → ds.length = l.length
  | [], [], _, _, _ => rfl
  | t :: ts, d :: ds, env, env', e => by
    unfold setTs at e
    cases h : setT t d env with
    | none =>
      rw [h] at e
      cases e
    | some env1 =>
      rw [h] at e
      exact congrArg (· + 1) (setTs_len ts ds env1 env' e)
  | [], _ :: _, _, _, e => by
    unfold setTs at e
    cases e
  | _ :: _, [], _, _, e => by
    unfold setTs at e
    cases e
theorem setTs_ok {w : Wd} {m : Mem} {H : Hp} {Q : L2.St → Hp → Prop} (hm : Hm G.K w m H) : ∀ (l : List Tg) {ds : List D} {vs : List V} {env env' : Env} {σ : L2.St}, RpA G.K w.I vs ds → RpE G.K w env σ → setTs l ds env = some env' →
    (∀ σ', Away (slotsTs l) σ σ' → RpE G.K w env' σ' → Q σ' H) → gTs G.K l vs σ H Q
  | [], _, _, env, env', σ, .nil, he, e, q => by
    unfold setTs at e
    cases e
    unfold gTs
    exact ⟨rfl, q σ Away.refl he⟩
  | t :: ts, _, _, env, env', σ, .cons (d := d) h1 h2, he, e, q => by
    unfold setTs at e
    cases h : setT t d env with
    | none =>
      rw [h] at e
      cases e
    | some env1 =>
      rw [h] at e
      unfold gTs
      refine ⟨_, _, rfl, setT_ok hm t h1 he h fun σ1 a1 r1 => setTs_ok hm ts h2 r1 e fun σ2 a2 r2 => q σ2 ?_ r2⟩
      unfold slotsTs
      exact (a1.mono fun i hi => List.mem_append_left _ hi).trans (a2.mono fun i hi => List.mem_append_right _ hi)
  | [], _, _, env, env', σ, .cons _ _, he, e, q => by
    unfold setTs at e
    cases e
  | _ :: _, _, _, env, env', σ, .nil, he, e, q => by
    unfold setTs at e
    cases e
end
end

/-! ### statements -/
inductive Out where
  | nx (env : Env) | bk (env : Env) | ct (env : Env) | rt (x : Sv) | rs (env : Env) (e : Xc)
abbrev SM := Env → Mem → Option (Out × Mem)
def PoS (G : Gm) (W : WX) (D : Ends) (w : Wd) (m : Mem) (o : Out) : Prop := ∀ w' H', Wd.Le w w' → Hm G.K w' m H' → match o with
  | .nx env => ∀ σ, RpE G.K w' env σ → D.nx σ H'
  | .bk env => ∀ σ, RpE G.K w' env σ → D.bk σ H'
  | .ct env => ∀ σ, RpE G.K w' env σ → D.ct σ H'
  | .rt x => ∀ v, RpS G.K w' x v → D.rt v H'
  | .rs env e => ∀ σ cls d, RpE G.K w' env σ → RpX G w' e cls d H' → W cls d σ H'
theorem PoS.at' {G : Gm} {W : WX} {D : Ends} {w w' : Wd} {m : Mem} {o : Out} (h : PoS G W D w m o) (l : Wd.Le w w') : PoS G W D w' m o := fun w2 H2 l2 => h w2 H2 (l.trans l2)
def CoS (G : Gm) (W : WX) (D : Ends) (w : Wd) (c : Mem → Option (Out × Mem)) (m : Mem) : Prop := ∃ o m', c m = some (o, m') ∧ PoS G W D w m' o
theorem CoS.at' {G : Gm} {W : WX} {D : Ends} {w w' : Wd} {m : Mem} {c : Mem → Option (Out × Mem)} (h : CoS G W D w c m) (l : Wd.Le w w') : CoS G W D w' c m := let ⟨o, m', e, p⟩ := h; ⟨o, m', e, p.at' l⟩
theorem CoS.eqm {G : Gm} {W : WX} {D : Ends} {w : Wd} {m m1 : Mem} {c c1 : Mem → Option (Out × Mem)} (h : CoS G W D w c m) (e : c m = c1 m1) : CoS G W D w c1 m1 := let ⟨o, m', e', p⟩ := h; ⟨o, m', by rw [← e]; exact e', p⟩
theorem CoS.none' {G : Gm} {W : WX} {D : Ends} {w : Wd} {m : Mem} {c : Mem → Option (Out × Mem)} (h : CoS G W D w c m) (e : c m = none) : False := by
  obtain ⟨o, m', e', _⟩ := h
  rw [e] at e'
  cases e'
def tS (G : Gm) (W : WX) (f : SM) : TS := fun D σ H => ∃ w env m, Hm G.K w m H ∧ RpE G.K w env σ ∧ CoS G W D w (f env) m
def sE (f : Env → M Sv) (k : Sv → SM) : SM := fun env m => match f env m with
  | some (.ok x, m1) => k x env m1
  | some (.error e, m1) => some (.rs env e, m1)
  | none => none
def sT (f : Env → M Bool) (k : Bool → SM) : SM := fun env m => match f env m with
  | some (.ok x, m1) => k x env m1
  | some (.error e, m1) => some (.rs env e, m1)
  | none => none
section
variable {X : Cx} {G : Gm} {W : WX} {e : Expr} {es : List Expr} {fa fb : Env → M Sv} {ga : Env → M Bool} {pos : Pos} {D : Ends} {σ : L2.St} {w : Wd} {m : Mem} {H : Hp} {env : Env}
theorem bdES {R : VK} {k : Sv → SM} (he : RpE G.K w env σ) (c : CoS G W D w (sE fa k env) m) (h : ∀ w' m' H' x v, Wd.Le w w' → Hm G.K w' m' H' → RpS G.K w' x v → CoS G W D w' (k x env) m' → R v H') : CoE G W σ R w (fa env) m := by
  obtain ⟨r, m', e, p⟩ := c
  unfold sE at e
  split at e
  · rename_i x m1 ea
    exact ⟨.ok x, m1, ea, fun w' H' l hm v hv => h w' m1 H' x v l hm hv ⟨r, m', e, p.at' l⟩⟩
  · rename_i x m1 ea
    cases e
    exact ⟨.error x, m', ea, fun w' H' l hm cls d q => p w' H' l hm σ cls d (he.mono l) q⟩
  · cases e
theorem bdTS {R : Bool → Hp → Prop} {k : Bool → SM} (he : RpE G.K w env σ) (c : CoS G W D w (sT ga k env) m) (h : ∀ w' m' H' x, Wd.Le w w' → Hm G.K w' m' H' → CoS G W D w' (k x env) m' → R x H') : CoT G W σ R w (ga env) m := by
  obtain ⟨r, m', e, p⟩ := c
  unfold sT at e
  split at e
  · rename_i x m1 ea
    exact ⟨.ok x, m1, ea, fun w' H' l hm => h w' m1 H' x l hm ⟨r, m', e, p.at' l⟩⟩
  · rename_i x m1 ea
    cases e
    exact ⟨.error x, m', ea, fun w' H' l hm cls d q => p w' H' l hm σ cls d (he.mono l) q⟩
  · cases e
def sNx : SM := fun env m => some (.nx env, m)
def sRt (x : Sv) : SM := fun _ m => some (.rt x, m)
def sBk : SM := fun env m => some (.bk env, m)
def sCt : SM := fun env m => some (.ct env, m)
def sSet (i : Nat) (x : Sv) : SM := fun env m => some (.nx (env.set i (some x)), m)
theorem CoS.nx {env : Env} (c : CoS G W D w (sNx env) m) (hm : Hm G.K w m H) (he : RpE G.K w env σ) : D.nx σ H := by
  obtain ⟨o, m', e, p⟩ := c
  cases e
  exact p w H (Wd.Le.refl w) hm σ he
theorem CoS.set {env : Env} {i : Nat} {x : Sv} {v : V} (c : CoS G W D w (sSet i x env) m) (hm : Hm G.K w m H) (he : RpE G.K w env σ) (hv : RpS G.K w x v) : D.nx (σ.set i (some v)) H := by
  obtain ⟨o, m', e, p⟩ := c
  cases e
  exact p w H (Wd.Le.refl w) hm _ (he.set i hv)
theorem CoS.rt {env : Env} {x : Sv} {v : V} (c : CoS G W D w (sRt x env) m) (hm : Hm G.K w m H) (hv : RpS G.K w x v) : D.rt v H := by
  obtain ⟨o, m', e, p⟩ := c
  cases e
  exact p w H (Wd.Le.refl w) hm v hv
def sSeq (f g : SM) : SM := fun env m => match f env m with
  | some (.nx env1, m1) => g env1 m1
  | r => r
variable {st : Stmt} {sts rest : List Stmt} {f g : SM}
theorem iss_nil : PSs X [] (tS G W sNx) := pss_nil.imp fun D σ H ⟨w, env, m, hm, he, c⟩ => c.nx hm he
theorem iss_one (h : PS X st (tS G W f)) : PSs X [st] (tS G W f) := pss_one h
theorem iss_cons (h : PS X st (tS G W f)) (hr : PSs X rest (tS G W g)) : PSs X (st :: rest) (tS G W (sSeq f g)) :=
  (pss_cons h hr).imp fun D σ H ⟨w, env, m, hm, he, c⟩ => by
    obtain ⟨o, m', e, p⟩ := c
    unfold sSeq at e
    cases h1 : f env m with
    | none =>
      rw [h1] at e
      cases e
    | some q =>
      obtain ⟨o1, m1⟩ := q
      rw [h1] at e
      refine ⟨w, env, m, hm, he, o1, m1, h1, ?_⟩
      cases o1 with
      | nx env1 => exact fun w' H' l hm' σ' he' => ⟨w', env1, m1, hm', he', o, m', e, p.at' l⟩
      | bk env1 =>
        cases e
        exact p
      | ct env1 =>
        cases e
        exact p
      | rt x =>
        cases e
        exact p
      | rs env1 x =>
        cases e
        exact p
/-- x = e -/
theorem is_set {i : Nat} {x : Str} {pos' : Pos} (hN : X.N.Nodup) (hi : X.N[i]? = some x) (hx : Loc X.env.scope x) (h : PE X e (tI G W fa)) (hs : swapsWith e (some (.Name x pos')) pos.line X.env = pure false := by rfl)
    (hf : X.fn x = true ∨ X.env.scope.names.lookup x = some .local := by first | exact .inl rfl | exact .inr rfl | assumption) : PS X (.Assign [.Name x pos'] e pos) (tS G W (sE fa (sSet i))) :=
  (ps_set hN hi hx h hs hf).imp fun D σ H ⟨w, env, m, hm, he, c⟩ => ⟨w, env, m, hm, he, bdES he c fun w1 m1 H1 x v l1 hm1 hx c1 => c1.set hm1 (he.mono l1) hx⟩
theorem is_ret (h : PE X e (tI G W fa)) : PS X (.Return (some e) pos) (tS G W (sE fa sRt)) :=
  (ps_ret h).imp fun D σ H ⟨w, env, m, hm, he, c⟩ => ⟨w, env, m, hm, he, bdES he c fun w1 m1 H1 x v l1 hm1 hx c1 => c1.rt hm1 hx⟩
theorem is_expr (h : PE X e (tI G W fa)) (hs : swapsWith e none pos.line X.env = pure false := by rfl) : PS X (.Expr e pos) (tS G W (sE fa fun _ => sNx)) :=
  (ps_expr h hs).imp fun D σ H ⟨w, env, m, hm, he, c⟩ => ⟨w, env, m, hm, he, bdES he c fun w1 m1 H1 x v l1 hm1 hx c1 => c1.nx hm1 (he.mono l1)⟩
theorem is_pass : PS X (.Pass pos) (tS G W sNx) := ps_pass.imp fun D σ H ⟨w, env, m, hm, he, c⟩ => c.nx hm he
theorem is_doc {x : Str} {j : Nat} {p : Pos} : PS X (.Expr (.Constant (.str x) j p) pos) (tS G W sNx) := ps_doc.imp fun D σ H ⟨w, env, m, hm, he, c⟩ => c.nx hm he
theorem is_break : PS X (.Break pos) (tS G W sBk) := ps_break.imp fun D σ H ⟨w, env, m, hm, he, o, m', e, p⟩ => by
  cases e
  exact p w H (Wd.Le.refl w) hm σ he
theorem is_cont : PS X (.Continue pos) (tS G W sCt) := ps_continue.imp fun D σ H ⟨w, env, m, hm, he, o, m', e, p⟩ => by
  cases e
  exact p w H (Wd.Le.refl w) hm σ he
def sIf (c : Env → M Bool) (f g : SM) : SM := sT c fun k => if k = true then f else g
theorem is_if {c : Expr} {a b : List Stmt} (hc : PT X c (tT G W ga)) (ha : PSs X a (tS G W f)) (hb : PSs X b (tS G W g)) : PS X (.If c a b pos) (tS G W (sIf ga f g)) :=
  (ps_if hc ha hb).imp fun D σ H ⟨w, env, m, hm, he, c⟩ => ⟨w, env, m, hm, he, bdTS he c fun w1 m1 H1 x l1 hm1 c1 => by
    cases x with
    | true =>
      show tS G W f D σ H1
      exact ⟨w1, env, m1, hm1, he.mono l1, c1⟩
    | false =>
      show tS G W g D σ H1
      exact ⟨w1, env, m1, hm1, he.mono l1, c1⟩⟩
/-- (a, b) = e -/
def sSetT (t : Tg) (x : Sv) : SM := fun env m => match x with
  | .d d => match setT t d env with
    | some env1 => some (.nx env1, m)
    | none => none
  | _ => none
theorem is_setT {tg : Expr} {t : Tg} (h : PE X e (tI G W fa)) (hg : PG X tg (gT G.K t)) (hs : swapsWithSole [tg] e pos.line X.env = pure false := by rfl) (hw : swappedStores [tg] e X.env = pure none := by rfl) (h1 : (assignEach [tg] X.env).map (·.2) = [assign tg X.env] := by rfl) : PS X (.Assign [tg] e pos) (tS G W (sE fa (sSetT t))) :=
  (ps_asg h hg hs hw h1).imp fun D σ H ⟨w, env, m, hm, he, c⟩ => ⟨w, env, m, hm, he, bdES he c fun w1 m1 H1 x v l1 hm1 hx c1 => by
    obtain ⟨o, m', e, p⟩ := c1
    cases x with
    | r k => cases e
    | d x =>
      have e2 : (match setT t x env with
        | some env1 => some (Out.nx env1, m1)
        | none => none) = some (o, m') := e
      split at e2
      · rename_i env1 h1
        cases e2
        exact setT_ok hm1 t hx (he.mono l1) h1 fun σ' _ r => p w1 H1 (Wd.Le.refl w1) hm1 σ' r
      · cases e2⟩
/-- a, b = e1, e2 -/
def sPar (i j : Nat) (f : Env → M (List Sv)) : SM := fun env m => match f env m with
  | some (.ok [x, y], m1) => some (.nx ((env.set i (some x)).set j (some y)), m1)
  | some (.error e, m1) => some (.rs env e, m1)
  | _ => none
theorem is_par {i j : Nat} {x y : Str} {a b : Expr} {fs : Env → M (List Sv)} {px py pt : Pos} {kt k2 pt2} (hc : X.calm = true) (hN : X.N.Nodup) (hi : X.N[i]? = some x) (hj : X.N[j]? = some y) (hij : i ≠ j)
    (hx : X.env.scope.names.lookup x = some .local) (hy : X.env.scope.names.lookup y = some .local) (h : PA X [a, b] (tA G W fs)) (hs : PS X (.Assign [.Tuple [.Name x px, .Name y py] kt pt] (.Tuple [a, b] k2 pt2) pos) (tPar i j (tA G W fs))) :
    PS X (.Assign [.Tuple [.Name x px, .Name y py] kt pt] (.Tuple [a, b] k2 pt2) pos) (tS G W (sPar i j fs)) :=
  hs.imp fun D σ H ⟨w, env, m, hm, he, o, m', e, p⟩ => ⟨w, env, m, hm, he, by
    unfold sPar at e
    split at e
    · rename_i u v m1 h1
      cases e
      refine ⟨.ok [u, v], m', h1, fun w' H' l hm' vs hv => ?_⟩
      cases hv with
      | cons r1 hv =>
        cases hv with
        | cons r2 hv =>
          cases hv
          exact ⟨_, _, rfl, p w' H' l hm' _ (((he.mono l).set i r1).set j r2)⟩
    · rename_i u m1 h1
      cases e
      exact ⟨.error u, m', h1, fun w' H' l hm' cls d q => p w' H' l hm' σ cls d (he.mono l) q⟩
    · cases e⟩
/-! loops -/
def loopF (t : Tg) (body : SM) : List MR.D → SM
  | [], env, m => some (.nx env, m)
  | d :: ds, env, m => match setT t d env with
    | none => none
    | some env1 => match body env1 m with
      | some (.nx env2, m2) => loopF t body ds env2 m2
      | some (.ct env2, m2) => loopF t body ds env2 m2
      | some (.bk env2, m2) => some (.nx env2, m2)
      | some (.rt x, m2) => some (.rt x, m2)
      | some (.rs env2 x, m2) => some (.rs env2 x, m2)
      | none => none
def sFor (it : Env → M (List MR.D)) (t : Tg) (body : SM) : SM := fun env m => match it env m with
  | some (.ok ds, m1) => loopF t body ds env m1
  | some (.error e, m1) => some (.rs env e, m1)
  | none => none
/-- J walks these -/
structure WalkD (K : PySem.W.Frag) (J : It) (items : List MR.D) (I0 : Hp) : Prop where
  goes : ∀ i H, i < items.length → Ex I0 H → J.go i H
  stops : ∀ H, Ex I0 H → J.stop items.length H
  yields : ∀ i H x H', i < items.length → Ex I0 H → J.yld i H x H' → ∃ d, items[i]? = some d ∧ ((H' = H ∧ Rp K I0 x d) ∨ ∃ p vs ds, x = .ref p ∧ H p = none ∧ H' = upd H p (.tup vs) ∧ d = .tup ds ∧ RpA K I0 vs ds)
def IterOk (G : Gm) (W : WX) (wi : TI) (it : Env → M (List MR.D)) : Prop := ∀ (σ : L2.St) (H : Hp) (R : It → Hp → Prop) (w : Wd) (env : Env) (m : Mem) (r : Except Xc (List MR.D)) (m' : Mem), Hm G.K w m H → RpE G.K w env σ → it env m = some (r, m') →
  (∀ w' H', Wd.Le w w' → Hm G.K w' m' H' → match r with
    | .ok items => ∀ J, WalkD G.K J items w'.I → R J H'
    | .error x => ∀ cls d, RpX G w' x cls d H' → W cls d σ H') → wi σ H R
theorem is_for {tg iter : Expr} {body : List Stmt} {wi : TI} {it : Env → M (List MR.D)} {t : Tg} (hp : PassesOwn (model X.prog X.w) X.A X.env X.xe) (hc : X.calm = true) (ho : IterOk G W wi it) (hi : PI X tg iter wi) (hg : PG X tg (gT G.K t)) (hb : PSs X body (tS G W f))
    (hs : ∀ x, foldedSetIterable iter X.env x = pure x := by intro _; rfl) : PS X (.For tg iter body [] pos) (tS G W (sFor it t f)) :=
  (ps_for hp hc hi hg hb hs).imp fun D σ H ⟨w, env, m, hm, he, o, m', e, p⟩ => by
    unfold sFor at e
    cases h1 : it env m with
    | none =>
      rw [h1] at e
      cases e
    | some q =>
      obtain ⟨r, m1⟩ := q
      rw [h1] at e
      refine ho σ H _ w env m r m1 hm he h1 fun w1 H1 l1 hm1 => ?_
      cases r with
      | error x =>
        cases e
        exact fun cls d q => p w1 H1 l1 hm1 σ cls d (he.mono l1) q
      | ok items =>
        intro J wk
        refine ⟨fun i k σ' H' => k = items.length - i ∧ i ≤ items.length ∧ ∃ w' env' m2, Wd.Le w1 w' ∧ Hm G.K w' m2 H' ∧ RpE G.K w' env' σ' ∧ loopF t f (items.drop i) env' m2 = some (o, m'), ⟨items.length, by simp, Nat.zero_le _, w1, env, m1, Wd.Le.refl w1, hm1, he.mono l1, by rw [List.drop_zero]; exact e⟩, ?_⟩
        rintro i k σ' H' ⟨rfl, hi, w', env', m2, l2, hm2, he2, e2⟩
        have hx : Ex w1.I H' := l2.I.trans (hm2.exI.trans hm2.exF)
        by_cases hlt : i < items.length
        · refine .inr ⟨wk.goes i H' hlt hx, fun σ3 H3 => ∃ w3 env3 m3, Wd.Le w1 w3 ∧ Hm G.K w3 m3 H3 ∧ RpE G.K w3 env3 σ3 ∧ loopF t f (items.drop (i + 1)) env3 m3 = some (o, m'), fun σ3 H3 z => ⟨_, by omega, rfl, hlt, z⟩, fun x H2 y => ?_⟩
          obtain ⟨d, hd, alt⟩ := wk.yields i H' x H2 hlt hx y
          rw [List.drop_eq_getElem_cons hlt] at e2
          have ed : items[i] = d := by
            rw [List.getElem?_eq_getElem hlt] at hd
            exact Option.some.inj hd
          rw [ed] at e2
          unfold loopF at e2
          cases hset : setT t d env' with
          | none =>
            rw [hset] at e2
            cases e2
          | some env1 =>
            rw [hset] at e2
            -- the world with the item
            have wd : ∃ w2, Wd.Le w' w2 ∧ Hm G.K w2 m2 H2 ∧ Rp G.K w2.I x d := by
              rcases alt with ⟨rfl, hr⟩ | ⟨pp, vs, ds, rfl, hn, rfl, rfl, hr⟩
              · exact ⟨w', Wd.Le.refl w', hm2, hr.mono l2.I⟩
              · have l := Wd.imm_le hm2 (.tup vs) hn
                exact ⟨_, l, hm2.imm (.tup vs) hn, Rp.tup (.inl (.inl upd_same)) (hr.mono (l2.I.trans l.I))⟩
            obtain ⟨w2, l3, hm3, hrx⟩ := wd
            refine setT_ok hm3 t hrx (he2.mono l3) hset fun σ3 _ he3 => ?_
            cases hb1 : f env1 m2 with
            | none =>
              simp only [hb1] at e2
              cases e2
            | some q =>
              obtain ⟨o1, m3⟩ := q
              refine ⟨w2, env1, m2, hm3, he3, o1, m3, hb1, fun w4 H4 l4 hm4 => ?_⟩
              simp only [hb1] at e2
              cases o1 with
              | nx env2 => exact fun σ4 he4 => ⟨w4, env2, m3, (l2.trans l3).trans l4, hm4, he4, e2⟩
              | ct env2 => exact fun σ4 he4 => ⟨w4, env2, m3, (l2.trans l3).trans l4, hm4, he4, e2⟩
              | bk env2 =>
                cases e2
                exact fun σ4 he4 => p w4 H4 (l1.trans ((l2.trans l3).trans l4)) hm4 σ4 he4
              | rt y =>
                cases e2
                exact fun v hv => p w4 H4 (l1.trans ((l2.trans l3).trans l4)) hm4 v hv
              | rs env2 y =>
                cases e2
                exact fun σ4 cls d he4 q => p w4 H4 (l1.trans ((l2.trans l3).trans l4)) hm4 σ4 cls d he4 q
        · have ei : i = items.length := by omega
          subst ei
          rw [List.drop_length] at e2
          cases e2
          exact .inl ⟨wk.stops H' hx, p w' H' (l1.trans l2) hm2 σ' he2⟩
def whN (c : Env → M Bool) (b : SM) : Nat → SM
  | 0, _, _ => none
  | n + 1, env, m => match c env m with
    | some (.ok true, m1) => (match b env m1 with
      | some (.nx env2, m2) => whN c b n env2 m2
      | some (.ct env2, m2) => whN c b n env2 m2
      | some (.bk env2, m2) => some (.nx env2, m2)
      | some (.rt x, m2) => some (.rt x, m2)
      | some (.rs env2 x, m2) => some (.rs env2 x, m2)
      | none => none)
    | some (.ok false, m1) => some (.nx env, m1)
    | some (.error x, m1) => some (.rs env x, m1)
    | none => none
open Classical in
noncomputable def sWh (c : Env → M Bool) (b : SM) : SM := fun env m => if h : ∃ n r, whN c b n env m = some r then some h.choose_spec.choose else none
theorem whN_mono {c : Env → M Bool} {b : SM} : ∀ (n k : Nat) {env : Env} {m : Mem} {r : Out × Mem}, whN c b n env m = some r → whN c b (n + k) env m = some r
  | 0, k, env, m, r, h => by cases h
  | n + 1, k, env, m, r, h => by
    rw [Nat.add_right_comm]
    unfold whN at h ⊢
    split at h
    · rename_i m1 h1
      try rw [h1]
      try dsimp only
      split at h
      · rename_i env2 m2 h2
        try rw [h2]
        exact whN_mono n k h
      · rename_i env2 m2 h2
        try rw [h2]
        exact whN_mono n k h
      · rename_i env2 m2 h2
        try rw [h2]
        exact h
      · rename_i env2 m2 h2
        try rw [h2]
        exact h
      · rename_i env2 m2 y h2
        try rw [h2]
        exact h
      · cases h
    · rename_i m1 h1
      try rw [h1]
      exact h
    · rename_i x m1 h1
      try rw [h1]
      exact h
    · cases h
theorem sWh_of {c : Env → M Bool} {b : SM} {n : Nat} {env : Env} {m : Mem} {r : Out × Mem} (h : whN c b n env m = some r) : sWh c b env m = some r := by
  unfold sWh
  have hx : ∃ n r, whN c b n env m = some r := ⟨n, r, h⟩
  rw [dif_pos hx]
  have h2 := hx.choose_spec.choose_spec
  have e1 := whN_mono n hx.choose h
  have e2 := whN_mono hx.choose n h2
  rw [Nat.add_comm] at e2
  rw [e1] at e2
  exact e2.symm
theorem sWh_ex {c : Env → M Bool} {b : SM} {env : Env} {m : Mem} {r : Out × Mem} (h : sWh c b env m = some r) : ∃ n, whN c b n env m = some r := by
  unfold sWh at h
  split at h
  · rename_i hx
    have e := Option.some.inj h
    exact ⟨hx.choose, by rw [← e]; exact hx.choose_spec.choose_spec⟩
  · cases h
theorem is_while {c : Expr} {body : List Stmt} (hp : PassesOwn (model X.prog X.w) X.A X.env X.xe) (hc : PT X c (tT G W ga)) (hb : PSs X body (tS G W f)) : PS X (.While c body [] pos) (tS G W (sWh ga f)) :=
  (ps_while hp hc hb).imp fun D σ H ⟨w, env, m, hm, he, o, m', e, p⟩ => by
    obtain ⟨n, e⟩ := sWh_ex e
    refine ⟨fun k σ' H' => ∃ w' env' m1, Wd.Le w w' ∧ Hm G.K w' m1 H' ∧ RpE G.K w' env' σ' ∧ whN ga f k env' m1 = some (o, m'), ⟨n, w, env, m, Wd.Le.refl w, hm, he, e⟩, ?_⟩
    rintro k σ' H' ⟨w', env', m1, l1, hm1, he1, e1⟩
    cases k with
    | zero => cases e1
    | succ k =>
      unfold whN at e1
      cases h1 : ga env' m1 with
      | none =>
        rw [h1] at e1
        cases e1
      | some q =>
        obtain ⟨r, m2⟩ := q
        rw [h1] at e1
        refine ⟨w', env', m1, hm1, he1, r, m2, h1, fun w2 H2 l2 hm2 => ?_⟩
        cases r with
        | error x =>
          cases e1
          exact fun cls d q => p w2 H2 (l1.trans l2) hm2 σ' cls d (he1.mono l2) q
        | ok b =>
          cases b with
          | false =>
            cases e1
            show D.nx σ' H2
            exact p w2 H2 (l1.trans l2) hm2 σ' (he1.mono l2)
          | true =>
            show ∃ N : L2.St → Hp → Prop, _
            refine ⟨fun σ3 H3 => ∃ w3 env3 m3, Wd.Le w w3 ∧ Hm G.K w3 m3 H3 ∧ RpE G.K w3 env3 σ3 ∧ whN ga f k env3 m3 = some (o, m'), fun σ3 H3 z => ⟨k, Nat.lt_succ_self k, z⟩, ?_⟩
            cases hb1 : f env' m2 with
            | none =>
              simp only [hb1] at e1
              cases e1
            | some q =>
              obtain ⟨o1, m3⟩ := q
              refine ⟨w2, env', m2, hm2, he1.mono l2, o1, m3, hb1, fun w4 H4 l4 hm4 => ?_⟩
              simp only [hb1] at e1
              cases o1 with
              | nx env2 => exact fun σ4 he4 => ⟨w4, env2, m3, (l1.trans l2).trans l4, hm4, he4, e1⟩
              | ct env2 => exact fun σ4 he4 => ⟨w4, env2, m3, (l1.trans l2).trans l4, hm4, he4, e1⟩
              | bk env2 =>
                cases e1
                exact fun σ4 he4 => p w4 H4 ((l1.trans l2).trans l4) hm4 σ4 he4
              | rt y =>
                cases e1
                exact fun v hv => p w4 H4 ((l1.trans l2).trans l4) hm4 v hv
              | rs env2 y =>
                cases e1
                exact fun σ4 cls d he4 q => p w4 H4 ((l1.trans l2).trans l4) hm4 σ4 cls d he4 q
end
end MR

namespace MR
open PySem PySem.Spec PyProof.Rows L2
section
variable {X : Cx} {G : Gm} {W : WX} {a b c e : Expr} {es : List Expr} {fa fb fc : Env → M Sv} {fs : Env → M (List Sv)} {pos : Pos}
theorem bd_none {α β : Type} {a : M α} {k : α → M β} {m : Mem} (h : a m = none) : a.bd k m = none := by
  unfold M.bd
  rw [h]
theorem ifc {β : Type} {c : Prop} [Decidable c] {k : M β} {m : Mem} {r : Except Xc β × Mem} (h : (M.if c k) m = some r) : c ∧ k m = some r := by
  unfold M.if at h
  split at h
  · rename_i hc
    exact ⟨hc, h⟩
  · cases h
/-! two ints -/
def gII (c : Int → Int → Prop) [∀ i j, Decidable (c i j)] (g : Int → Int → D) (x y : Sv) : M Sv := (asI x).bd fun i => (asI y).bd fun j => M.if (c i j) (M.ok (.d (g i j)))
theorem snd_II {C : Int → Int → Prop} {c : Int → Int → Prop} [∀ i j, Decidable (c i j)] {g : Int → Int → D} {gv : Int → Int → V} (hc : ∀ i j, c i j → C i j) (hg : ∀ I i j, Rp G.K I (gv i j) (g i j)) : Snd2 G (rI C gv) (gII c g) := by
  intro W σ w m H x y v u Q hm hx hy h
  rcases vI hx with ⟨i, rfl, rfl⟩ | n
  · rcases vI hy with ⟨j, rfl, rfl⟩ | n
    · obtain ⟨h1, h2⟩ := CoE.ifc (a := M.ok (.d (g i j))) (c := c i j) h
      exact ⟨i, j, rfl, rfl, hc i j h1, h2.ret hm (hg _ i j)⟩
    · exact (h.none' (n _ _ _)).elim
  · exact (h.none' (n _ _ _)).elim
theorem snd_I0 {g : Int → Int → D} {gv : Int → Int → V} (hg : ∀ I i j, Rp G.K I (gv i j) (g i j)) : Snd2 G (rI0 gv) (gII (fun _ _ => True) g) := by
  intro W σ w m H x y v u Q hm hx hy h
  obtain ⟨i, j, e1, e2, _, q⟩ := snd_II (C := fun _ _ => True) (gv := gv) (fun _ _ h => h) hg W σ w m H x y v u Q hm hx hy h
  exact ⟨i, j, e1, e2, q⟩
abbrev gSub : Sv → Sv → M Sv := gII (fun _ _ => True) fun i j => .int (i - j)
abbrev gLt : Sv → Sv → M Sv := gII (fun _ _ => True) fun i j => .bl (decide (i < j))
abbrev gLe : Sv → Sv → M Sv := gII (fun _ _ => True) fun i j => .bl (decide (i ≤ j))
abbrev gGt : Sv → Sv → M Sv := gII (fun _ _ => True) fun i j => .bl (decide (j < i))
abbrev gGe : Sv → Sv → M Sv := gII (fun _ _ => True) fun i j => .bl (decide (j ≤ i))
abbrev cMul (i j : Int) : Prop := (-18446744073709551616 < i ∧ i < 18446744073709551616) ∨ (-18446744073709551616 < j ∧ j < 18446744073709551616)
abbrev gMul : Sv → Sv → M Sv := gII cMul fun i j => .int (i * j)
abbrev cDiv (_i j : Int) : Prop := 0 < j ∧ j < 18446744073709551616
abbrev gDiv : Sv → Sv → M Sv := gII cDiv fun i j => .int (i / j)
abbrev cMod (_i j : Int) : Prop := 0 < j
abbrev gMod : Sv → Sv → M Sv := gII cMod fun i j => .int (i % j)
abbrev cPow (i j : Int) : Prop := 0 ≤ j ∧ j ≤ 1000000 ∧ i.natAbs < 18446744073709551616
abbrev gPow : Sv → Sv → M Sv := gII cPow fun i j => .int (i ^ j.toNat)
theorem ie_sub (ha : PE X a (tI G W fa)) (hb : PE X b (tI G W fb)) : PE X (.BinOp a .Sub b pos) (tI G W (f2 gSub fa fb)) := ie_op2 (snd_I0 fun _ _ _ => .int _) op_sub ha hb
theorem ie_mul (ha : PE X a (tI G W fa)) (hb : PE X b (tI G W fb)) : PE X (.BinOp a .Mult b pos) (tI G W (f2 gMul fa fb)) := ie_op2 (snd_II (C := CMul) (fun _ _ h => h) fun _ _ _ => .int _) op_mul ha hb
theorem cDiv_ok {i j : Int} (h : cDiv i j) : CDivW i j := wide_div (b := 64) h.1 (by have h1 := h.1; have h2 := h.2; omega) (by decide) (by decide)
theorem ie_div (ha : PE X a (tI G W fa)) (hb : PE X b (tI G W fb)) : PE X (.BinOp a .FloorDiv b pos) (tI G W (f2 gDiv fa fb)) := ie_op2 (snd_II (C := CDivW) (fun _ _ h => cDiv_ok h) fun _ _ _ => .int _) op_fdivW ha hb
theorem ie_mod (ha : PE X a (tI G W fa)) (hb : PE X b (tI G W fb)) : PE X (.BinOp a .Mod b pos) (tI G W (f2 gMod fa fb)) := ie_op2 (snd_II (C := fun _ j => 0 < j) (fun _ _ h => h) fun _ _ _ => .int _) op_mod ha hb
theorem ie_pow (ha : PE X a (tI G W fa)) (hb : PE X b (tI G W fb)) : PE X (.BinOp a .Pow b pos) (tI G W (f2 gPow fa fb)) := ie_op2 (snd_II (C := CPow) (fun _ _ h => h) fun _ _ _ => .int _) op_pow ha hb
/-- orders of ints -/
theorem ie_lt (ha : PE X a (tI G W fa)) (hb : PE X b (tI G W fb)) : PE X (.Compare a [.Lt] [b] pos) (tI G W (f2 gLt fa fb)) := ie_cmp2 (snd_I0 fun _ _ _ => .bl _) op_lt ha hb (nomark _)
theorem ie_le (ha : PE X a (tI G W fa)) (hb : PE X b (tI G W fb)) : PE X (.Compare a [.LtE] [b] pos) (tI G W (f2 gLe fa fb)) := ie_cmp2 (snd_I0 fun _ _ _ => .bl _) op_le ha hb (nomark _)
theorem ie_gt (ha : PE X a (tI G W fa)) (hb : PE X b (tI G W fb)) : PE X (.Compare a [.Gt] [b] pos) (tI G W (f2 gGt fa fb)) := ie_cmp2 (snd_I0 fun _ _ _ => .bl _) op_gt ha hb (nomark _)
theorem ie_ge (ha : PE X a (tI G W fa)) (hb : PE X b (tI G W fb)) : PE X (.Compare a [.GtE] [b] pos) (tI G W (f2 gGe fa fb)) := ie_cmp2 (snd_I0 fun _ _ _ => .bl _) op_ge ha hb (nomark _)
theorem it_lt (ha : PE X a (tI G W fa)) (hb : PE X b (tI G W fb)) : PT X (.Compare a [.Lt] [b] pos) (tT G W (fB (f2 gLt fa fb))) := it_cmp2 (snd_I0 fun _ _ _ => .bl _) op_lt ha hb (nomark _)
theorem it_le (ha : PE X a (tI G W fa)) (hb : PE X b (tI G W fb)) : PT X (.Compare a [.LtE] [b] pos) (tT G W (fB (f2 gLe fa fb))) := it_cmp2 (snd_I0 fun _ _ _ => .bl _) op_le ha hb (nomark _)
theorem it_gt (ha : PE X a (tI G W fa)) (hb : PE X b (tI G W fb)) : PT X (.Compare a [.Gt] [b] pos) (tT G W (fB (f2 gGt fa fb))) := it_cmp2 (snd_I0 fun _ _ _ => .bl _) op_gt ha hb (nomark _)
theorem it_ge (ha : PE X a (tI G W fa)) (hb : PE X b (tI G W fb)) : PT X (.Compare a [.GtE] [b] pos) (tT G W (fB (f2 gGe fa fb))) := it_cmp2 (snd_I0 fun _ _ _ => .bl _) op_ge ha hb (nomark _)
/-- -a -/
def gNeg (x : Sv) : M Sv := (asI x).bd fun i => M.ok (.d (.int (-i)))
theorem ie_neg (ha : PE X a (tI G W fa)) : PE X (.UnaryOp .USub a pos) (tI G W (f1 gNeg fa)) :=
  (pe_un un_neg ha).imp fun σ H Q ⟨w, env, m, hm, he, c⟩ => ⟨w, env, m, hm, he, bdEE c fun w1 m1 H1 x v l1 hm1 hx c1 => by
    rcases vI hx with ⟨i, rfl, rfl⟩ | n
    · exact ⟨i, rfl, CoE.ret (x := .d (.int (-i))) c1 hm1 (Rp.int _)⟩
    · exact (c1.none' (n _ _ _)).elim⟩

/-! == : of things alike in kind -/
mutual
/-- the data as Python's == has it -/
def pyD : D → Option PyData
  | .non => some .none
  | .bl b => some (.bool b)
  | .int i => some (.int i)
  | .str x => some (.str x)
  | .tup l => match pyDs l with
    | some ds => some (.tuple ds)
    | none => none
  | .lst l => match pyDs l with
    | some ds => some (.list ds)
    | none => none
  | .lsf l => match pyDs l with
    | some ds => some (.list ds)
    | none => none
  | _ => none
def pyDs : List D → Option (List PyData)
  | [] => some []
  | d :: ds => match pyD d, pyDs ds with
    | some x, some xs => some (x :: xs)
    | _, _ => none
end
mutual
theorem dp_of {K : PySem.W.Frag} {I H : Hp} (e : Ex I H) : ∀ {d : D} {v : V} {p : PyData}, Rp K I v d → pyD d = some p → Dp K H v p
  | .non, _, _, .non, h => by
    unfold pyD at h
    cases h
    exact .non
  | .bl b, _, _, .bl _, h => by
    unfold pyD at h
    cases h
    exact .bl b
  | .int b, _, _, .int _, h => by
    unfold pyD at h
    cases h
    exact .int b
  | .str b, _, _, .str _, h => by
    unfold pyD at h
    cases h
    exact .str b
  | .tup l, _, _, .tup h1 h2, h => by
    unfold pyD at h
    cases q : pyDs l with
    | none =>
      rw [q] at h
      cases h
    | some ds =>
      rw [q] at h
      cases h
      exact .tup (e.st h1) (dps_of e h2 q)
  | .lst l, _, _, .lst h1 h2, h => by
    unfold pyD at h
    cases q : pyDs l with
    | none =>
      rw [q] at h
      cases h
    | some ds =>
      rw [q] at h
      cases h
      exact .lst (.inl (.inl (e _ _ h1))) (dps_of e h2 q)
  | .lsf l, _, _, .lsf h1 h2, h => by
    unfold pyD at h
    cases q : pyDs l with
    | none =>
      rw [q] at h
      cases h
    | some ds =>
      rw [q] at h
      cases h
      exact .lst (e.sl h1) (dps_of e h2 q)
  | .dk _ _, _, _, _, h => by
    unfold pyD at h
    cases h
  | .dt _ _, _, _, _, h => by
    unfold pyD at h
    cases h
  | .raw _, _, _, _, h => by
    unfold pyD at h
    cases h
theorem dps_of {K : PySem.W.Frag} {I H : Hp} (e : Ex I H) : ∀ {ds : List D} {vs : List V} {ps : List PyData}, RpA K I vs ds → pyDs ds = some ps → DpAll K H vs ps
  | [], _, _, .nil, h => by
    unfold pyDs at h
    cases h
    exact .nil
  | d :: ds, _, _, .cons h1 h2, h => by
    unfold pyDs at h
    cases q : pyD d with
    | none =>
      rw [q] at h
      cases h
    | some x =>
      cases q2 : pyDs ds with
      | none =>
        rw [q, q2] at h
        cases h
      | some xs =>
        rw [q, q2] at h
        cases h
        exact .cons (dp_of e h1 q) (dps_of e h2 q2)
end
/-- the data in a slot's value, as it stands -/
def valD : Sv → M D
  | .d x => M.ok x
  | .r k => fun m => match m[k]? with
    | some (.l ds) => some (.ok (.lst ds), m)
    | some (.fz x) => some (.ok x, m)
    | _ => none
theorem vV {w : Wd} {m : Mem} {H : Hp} {x : Sv} {v : V} (hm : Hm G.K w m H) (h : RpS G.K w x v) : (∃ d, valD x m = some (.ok d, m) ∧ (Rp G.K w.I v d ∨ ∃ a vs ds, d = .lst ds ∧ v = .ref a ∧ H a = some (.lst vs) ∧ RpA G.K w.I vs ds)) ∨ valD x m = none := by
  cases x with
  | d y => exact .inl ⟨y, rfl, .inl h⟩
  | r k =>
    obtain ⟨a, ea, rfl⟩ := h
    cases e : m[k]? with
    | none =>
      refine .inr ?_
      unfold valD
      simp only [e]
    | some o =>
      have q := hm.obj k a o ea e
      cases o with
      | l ds =>
        obtain ⟨vs, z, r⟩ := q
        refine .inl ⟨.lst ds, ?_, .inr ⟨a, vs, ds, rfl, rfl, z, r⟩⟩
        unfold valD
        simp only [e]
      | dk ks ds =>
        refine .inr ?_
        unfold valD
        simp only [e]
      | fz d =>
        refine .inl ⟨d, ?_, .inl q⟩
        unfold valD
        simp only [e]
theorem dp_val {w : Wd} {m : Mem} {H : Hp} {v : V} {d : D} {p : PyData} (hm : Hm G.K w m H) (h : Rp G.K w.I v d ∨ ∃ a vs ds, d = .lst ds ∧ v = .ref a ∧ H a = some (.lst vs) ∧ RpA G.K w.I vs ds) (e : pyD d = some p) : Dp G.K H v p := by
  rcases h with h | ⟨a, vs, ds, rfl, rfl, z, r⟩
  · exact dp_of (hm.exI.trans hm.exF) h e
  · unfold pyD at e
    cases q : pyDs ds with
    | none =>
      rw [q] at e
      cases e
    | some xs =>
      rw [q] at e
      cases e
      exact .lst (.inl (.inl z)) (dps_of (hm.exI.trans hm.exF) r q)
/-- == of data -/
def eqD (x y : D) : Option Bool := match x, y with
  | .int i, .int j => some (decide (i = j))
  | .str i, .str j => some (decide (i = j))
  | .bl i, .bl j => some (decide (i = j))
  | .non, .non => some true
  | x, y => match pyD x, pyD y with
    | some d, some e => if SeqAt.shaped d = true ∧ SeqAt.shaped e = true then some (PyData.eqv d e) else none
    | _, _ => none
def gEq (x y : Sv) : M Sv := (valD x).bd fun d => (valD y).bd fun e => fun m => match eqD d e with
  | some k => some (.ok (.d (.bl k)), m)
  | none => none
def gNe (x y : Sv) : M Sv := (valD x).bd fun d => (valD y).bd fun e => fun m => match eqD d e with
  | some k => some (.ok (.d (.bl (!k))), m)
  | none => none
theorem eqD_cases {x y : D} {k : Bool} (h : eqD x y = some k) : (∃ i j, x = .int i ∧ y = .int j ∧ k = decide (i = j)) ∨ (∃ i j, x = .str i ∧ y = .str j ∧ k = decide (i = j)) ∨ (∃ i j, x = .bl i ∧ y = .bl j ∧ k = decide (i = j)) ∨ (x = .non ∧ y = .non ∧ k = true) ∨
    ∃ d e, pyD x = some d ∧ pyD y = some e ∧ SeqAt.shaped d = true ∧ SeqAt.shaped e = true ∧ k = PyData.eqv d e := by
  unfold eqD at h
  split at h
  · cases h
    exact .inl ⟨_, _, rfl, rfl, rfl⟩
  · cases h
    exact .inr (.inl ⟨_, _, rfl, rfl, rfl⟩)
  · cases h
    exact .inr (.inr (.inl ⟨_, _, rfl, rfl, rfl⟩))
  · cases h
    exact .inr (.inr (.inr (.inl ⟨rfl, rfl, rfl⟩)))
  · split at h
    · rename_i d e h1 h2
      split at h
      · rename_i hs
        cases h
        exact .inr (.inr (.inr (.inr ⟨d, e, h1, h2, hs.1, hs.2, rfl⟩)))
      · cases h
    · cases h
def rEqA (K : PySem.W.Frag) : R2 := fun x y H Q => rEq x y H Q ∨ rEqD K x y H Q
def rNeA (K : PySem.W.Frag) : R2 := fun x y H Q => rNe x y H Q ∨ rNeD K x y H Q
theorem snd_eq : Snd2 G (rEqA G.K) gEq := by
  intro W σ w m H x y v u Q hm hx hy h
  rcases vV hm hx with ⟨d, e1, r1⟩ | n
  · rcases vV hm hy with ⟨e, e2, r2⟩ | n
    · have h1 : CoE G W σ Q w (fun m => match eqD d e with
        | some k => some (.ok (.d (.bl k)), m)
        | none => none) m := (h.eqm (bd_of e1)).eqm (bd_of e2)
      cases q : eqD d e with
      | none => exact (h1.none' (by rw [q])).elim
      | some k =>
        have h2 : CoE G W σ Q w (M.ok (.d (.bl k))) m := h1.eqm (by rw [q]; rfl)
        have hq : Q (.bl k) H := h2.ret hm (Rp.bl k)
        rcases eqD_cases q with ⟨i, j, rfl, rfl, rfl⟩ | ⟨i, j, rfl, rfl, rfl⟩ | ⟨i, j, rfl, rfl, rfl⟩ | ⟨rfl, rfl, rfl⟩ | ⟨d', e', h3, h4, h5, h6, rfl⟩
        · rcases r1 with r1 | ⟨_, _, _, z, _⟩
          · rcases r2 with r2 | ⟨_, _, _, z, _⟩
            · cases r1
              cases r2
              refine .inl ⟨rfl, ?_⟩
              have : decide (V.int i = V.int j) = decide (i = j) := by simp
              rw [this]
              exact hq
            · cases z
          · cases z
        · rcases r1 with r1 | ⟨_, _, _, z, _⟩
          · rcases r2 with r2 | ⟨_, _, _, z, _⟩
            · cases r1
              cases r2
              refine .inl ⟨rfl, ?_⟩
              have : decide (V.str i = V.str j) = decide (i = j) := by simp
              rw [this]
              exact hq
            · cases z
          · cases z
        · rcases r1 with r1 | ⟨_, _, _, z, _⟩
          · rcases r2 with r2 | ⟨_, _, _, z, _⟩
            · cases r1
              cases r2
              refine .inl ⟨rfl, ?_⟩
              have : decide (V.bl i = V.bl j) = decide (i = j) := by simp
              rw [this]
              exact hq
            · cases z
          · cases z
        · rcases r1 with r1 | ⟨_, _, _, z, _⟩
          · rcases r2 with r2 | ⟨_, _, _, z, _⟩
            · cases r1
              cases r2
              refine .inl ⟨rfl, ?_⟩
              rw [decide_eq_true rfl]
              exact hq
            · cases z
          · cases z
        · exact .inr ⟨d', e', dp_val hm r1 h3, dp_val hm r2 h4, h5, h6, hq⟩
    · exact ((h.eqm (bd_of e1)).none' (bd_none n)).elim
  · exact (h.none' (bd_none n)).elim
theorem snd_ne : Snd2 G (rNeA G.K) gNe := by
  intro W σ w m H x y v u Q hm hx hy h
  rcases vV hm hx with ⟨d, e1, r1⟩ | n
  · rcases vV hm hy with ⟨e, e2, r2⟩ | n
    · have h1 : CoE G W σ Q w (fun m => match eqD d e with
        | some k => some (.ok (.d (.bl (!k))), m)
        | none => none) m := (h.eqm (bd_of e1)).eqm (bd_of e2)
      cases q : eqD d e with
      | none => exact (h1.none' (by rw [q])).elim
      | some k =>
        have h2 : CoE G W σ Q w (M.ok (.d (.bl (!k)))) m := h1.eqm (by rw [q]; rfl)
        have hq : Q (.bl (!k)) H := h2.ret hm (Rp.bl _)
        rcases eqD_cases q with ⟨i, j, rfl, rfl, rfl⟩ | ⟨i, j, rfl, rfl, rfl⟩ | ⟨i, j, rfl, rfl, rfl⟩ | ⟨rfl, rfl, rfl⟩ | ⟨d', e', h3, h4, h5, h6, rfl⟩
        · rcases r1 with r1 | ⟨_, _, _, z, _⟩
          · rcases r2 with r2 | ⟨_, _, _, z, _⟩
            · cases r1
              cases r2
              refine .inl ⟨rfl, ?_⟩
              have : decide (V.int i = V.int j) = decide (i = j) := by simp
              rw [this]
              exact hq
            · cases z
          · cases z
        · rcases r1 with r1 | ⟨_, _, _, z, _⟩
          · rcases r2 with r2 | ⟨_, _, _, z, _⟩
            · cases r1
              cases r2
              refine .inl ⟨rfl, ?_⟩
              have : decide (V.str i = V.str j) = decide (i = j) := by simp
              rw [this]
              exact hq
            · cases z
          · cases z
        · rcases r1 with r1 | ⟨_, _, _, z, _⟩
          · rcases r2 with r2 | ⟨_, _, _, z, _⟩
            · cases r1
              cases r2
              refine .inl ⟨rfl, ?_⟩
              have : decide (V.bl i = V.bl j) = decide (i = j) := by simp
              rw [this]
              exact hq
            · cases z
          · cases z
        · rcases r1 with r1 | ⟨_, _, _, z, _⟩
          · rcases r2 with r2 | ⟨_, _, _, z, _⟩
            · cases r1
              cases r2
              refine .inl ⟨rfl, ?_⟩
              rw [decide_eq_true rfl]
              exact hq
            · cases z
          · cases z
        · exact .inr ⟨d', e', dp_val hm r1 h3, dp_val hm r2 h4, h5, h6, hq⟩
    · exact ((h.eqm (bd_of e1)).none' (bd_none n)).elim
  · exact (h.none' (bd_none n)).elim
theorem op_eqA (hK : G.K = X.K) (hu : X.A.units + 64 < cLine) : OpR X (compareOp .Eq) (rEqA G.K) := by
  rw [hK]
  exact op_eq.or (op_eqD hu)
theorem op_neA (hK : G.K = X.K) (hu : X.A.units + 64 < cLine) : OpR X (compareOp .NotEq) (rNeA G.K) := by
  rw [hK]
  exact op_ne.or (op_neD hu)
theorem ie_eq (hK : G.K = X.K) (hu : X.A.units + 64 < cLine) (ha : PE X a (tI G W fa)) (hb : PE X b (tI G W fb)) : PE X (.Compare a [.Eq] [b] pos) (tI G W (f2 gEq fa fb)) := ie_cmp2 snd_eq (op_eqA hK hu) ha hb (nomark _)
theorem ie_ne (hK : G.K = X.K) (hu : X.A.units + 64 < cLine) (ha : PE X a (tI G W fa)) (hb : PE X b (tI G W fb)) : PE X (.Compare a [.NotEq] [b] pos) (tI G W (f2 gNe fa fb)) := ie_cmp2 snd_ne (op_neA hK hu) ha hb (nomark _)
theorem it_eq (hK : G.K = X.K) (hu : X.A.units + 64 < cLine) (ha : PE X a (tI G W fa)) (hb : PE X b (tI G W fb)) : PT X (.Compare a [.Eq] [b] pos) (tT G W (fB (f2 gEq fa fb))) := it_cmp2 snd_eq (op_eqA hK hu) ha hb (nomark _)
theorem it_ne (hK : G.K = X.K) (hu : X.A.units + 64 < cLine) (ha : PE X a (tI G W fa)) (hb : PE X b (tI G W fb)) : PT X (.Compare a [.NotEq] [b] pos) (tT G W (fB (f2 gNe fa fb))) := it_cmp2 snd_ne (op_neA hK hu) ha hb (nomark _)

/-! a[i] -/
/-- the item at a place of any sign -/
def gIx (x y : Sv) : M Sv := (asI y).bd fun i m => match x with
  | .d (.str z) => if z.length ≤ sizeLine then (match atI z.cps.toList i with
    | some c => some (.ok (.d (.str ⟨#[c]⟩)), m)
    | none => none) else none
  | .d (.tup ds) => (match atI ds i with
    | some d => some (.ok (.d d), m)
    | none => none)
  | x => match asL x m with
    | some (.ok ds, m1) => (match atI ds i with
      | some d => some (.ok (.d d), m1)
      | none => none)
    | _ => none
theorem atI_rp {K : PySem.W.Frag} {I : Hp} {vs : List V} {ds : List D} {i : Int} {d : D} (h : RpA K I vs ds) (e : atI ds i = some d) : ∃ v, atI vs i = some v ∧ Rp K I v d := by
  unfold atI at e ⊢
  rw [h.length]
  cases q : ixN ds.length i with
  | none =>
    rw [q] at e
    cases e
  | some j =>
    rw [q] at e
    exact h.get e
theorem snd_ix : Snd2 G (rIx G.K) gIx := by
  intro W σ w m H x y v u Q hm hx hy h
  rcases vI hy with ⟨i, rfl, rfl⟩ | n
  · have list : (∃ x', x = .r x') ∨ (∃ ds, x = .d (.lst ds)) ∨ (∃ ds, x = .d (.lsf ds)) → CoE G W σ Q w (fun m => match asL x m with
      | some (.ok ds, m1) => (match atI ds i with
        | some d => some (.ok (.d d), m1)
        | none => none)
      | _ => none) m → rIx G.K v (.int i) H Q := fun _ h1 => by
      rcases vL hm hx with ⟨a, vs, ds, e1, rfl, h2, r⟩ | n
      · cases q : atI ds i with
        | none => exact (h1.none' (by simp only [e1, q])).elim
        | some d =>
          obtain ⟨z, e2, rz⟩ := atI_rp r q
          have h3 : CoE G W σ Q w (M.ok (.d d)) m := h1.eqm (by simp only [e1, q]; rfl)
          exact .inl ⟨a, vs, i, z, rfl, rfl, h2, e2, h3.ret hm rz⟩
      · have z : ∀ ds m1, asL x m ≠ some (.ok ds, m1) := fun ds m1 z => by
          have := n Unit (fun _ => M.ok ())
          unfold M.bd at this
          rw [z] at this
          cases this
        refine (h1.none' ?_).elim
        cases q : asL x m with
        | none => rfl
        | some p =>
          obtain ⟨r, m1⟩ := p
          cases r with
          | ok ds => exact absurd q (z ds m1)
          | error _ => rfl
    cases x with
    | r k => exact list (.inl ⟨k, rfl⟩) h
    | d x =>
      cases x with
      | str z =>
        cases hx
        by_cases hz : z.length ≤ sizeLine
        · cases q : atI z.cps.toList i with
          | none => exact (h.none' (by show (if z.length ≤ sizeLine then _ else _) = _; rw [if_pos hz, q])).elim
          | some c =>
            have h3 : CoE G W σ Q w (M.ok (.d (.str ⟨#[c]⟩))) m := h.eqm (by show (if z.length ≤ sizeLine then _ else _) = _; rw [if_pos hz, q]; rfl)
            exact .inr (.inr ⟨z, i, c, rfl, rfl, hz, q, h3.ret hm (Rp.str _)⟩)
        · exact (h.none' (by show (if z.length ≤ sizeLine then _ else _) = _; rw [if_neg hz])).elim
      | tup ds =>
        cases hx with
        | tup h1 h2 =>
          cases q : atI ds i with
          | none => exact (h.none' (by show (match atI ds i with | some d => _ | none => _) = _; rw [q])).elim
          | some d =>
            obtain ⟨z, e2, rz⟩ := atI_rp h2 q
            have h3 : CoE G W σ Q w (M.ok (.d d)) m := h.eqm (by show (match atI ds i with | some d => _ | none => _) = _; rw [q]; rfl)
            exact .inr (.inl ⟨_, _, i, z, rfl, rfl, (hm.exI.trans hm.exF).st h1, e2, h3.ret hm rz⟩)
      | lst ds => exact list (.inr (.inl ⟨ds, rfl⟩)) h
      | lsf ds => exact list (.inr (.inr ⟨ds, rfl⟩)) h
      | _ => exact (h.none' rfl).elim
  · exact (h.none' (n _ _ _)).elim
theorem ix_seqG (hK : G.K = X.K) : IxR X (rIx G.K) := by
  rw [hK]
  exact ix_seq
theorem ie_ix (hK : G.K = X.K) (ha : PE X a (tI G W fa)) (hb : PE X b (tI G W fb)) (hs : PlainIx b := by exact fun _ _ => rfl) : PE X (.Subscript a b pos) (tI G W (f2 gIx fa fb)) :=
  (pe_ix (ix_seqG hK) ha hb hs).imp fun σ H Q ⟨w, env, m, hm, he, c⟩ => ⟨w, env, m, hm, he, bdEE c fun w1 m1 H1 x v l1 hm1 hx c1 => ⟨w1, env, m1, hm1, he.mono l1, bdEE c1 fun w2 m2 H2 y u l2 hm2 hy c2 => snd_ix W σ w2 m2 H2 x y v u Q hm2 (hx.mono l2) hy c2⟩⟩
/-- xs[i] = e, xs owned -/
def sSetI (fx fi : Env → M Sv) (v : Sv) : SM := sE fx fun x => sE fi fun i env m => match x, i with
  | .r k, .d (.int i) => (match toD v m with
    | some (.ok d, m1) => (match m1[k]? with
      | some (.l ds) => (match ixN ds.length i with
        | some j => some (.nx env, m1.set k (.l (ds.set j d)))
        | none => none)
      | _ => none)
    | _ => none)
  | _, _ => none
theorem is_setI {o i : Expr} {fx fi : Env → M Sv} {p : Pos} (he : PE X e (tI G W fa)) (ho : PE X o (tI G W fx)) (hi : PE X i (tI G W fi))
    (hs : swapsWithSole [.Subscript o i p] e pos.line X.env = pure false := by rfl) (hw : swappedStores [.Subscript o i p] e X.env = pure none := by rfl) (h1 : (assignEach [.Subscript o i p] X.env).map (·.2) = [assign (.Subscript o i p) X.env] := by rfl)
    (h2 : ∀ v, assign (.Subscript o i p) X.env v = (do
      let ov ← holding [v] (eval o X.env)
      let iv ← holding [v, ov] (eval i X.env)
      standAt p
      holding [v, ov, iv] (setItem ov iv v)
      release [v, ov, iv] []) := by intro _; rfl) : PS X (.Assign [.Subscript o i p] e pos) (tS G W (sE fa (sSetI fx fi))) :=
  (ps_asg he (pg_sub ho hi set_list h2) hs hw h1).imp fun D σ H ⟨w, env, m, hm, he, c⟩ => ⟨w, env, m, hm, he, bdES he c fun w1 m1 H1 z v l1 hm1 hz c1 =>
    ⟨w1, env, m1, hm1, he.mono l1, bdES (he.mono l1) c1 fun w2 m2 H2 x u l2 hm2 hx c2 => ⟨w2, env, m2, hm2, (he.mono l1).mono l2, bdES ((he.mono l1).mono l2) c2 fun w3 m3 H3 y t l3 hm3 hy c3 => by
      have hx3 := hx.mono l3
      have hz3 := (hz.mono l2).mono l3
      have he3 := ((he.mono l1).mono l2).mono l3
      cases x with
      | d x => exact (c3.none' rfl).elim
      | r k =>
        cases y with
        | r _ => exact (c3.none' rfl).elim
        | d y =>
          cases y with
          | int i =>
            cases hy
            rcases vD hm3 hz3 with ⟨d, m4, w4, e4, l4, h4, r4⟩ | n
            · have e5 : ∀ r, (match toD z m3 with
                | some (.ok d, m1) => (match m1[k]? with
                  | some (.l ds) => (match ixN ds.length i with
                    | some j => some (Out.nx env, m1.set k (.l (ds.set j d)))
                    | none => none)
                  | _ => none)
                | _ => none) = some r → CoS G W D w3 (fun _ => some r) m3 := fun r hr => by
                obtain ⟨o, m', e, p⟩ := c3
                have e' : (match toD z m3 with
                  | some (.ok d, m1) => (match m1[k]? with
                    | some (.l ds) => (match ixN ds.length i with
                      | some j => some (Out.nx env, m1.set k (.l (ds.set j d)))
                      | none => none)
                    | _ => none)
                  | _ => none) = some (o, m') := e
                rw [hr] at e'
                cases e'
                exact ⟨o, m', rfl, p⟩
              obtain ⟨a, ea, rfl⟩ := hx3.mono l4
              cases q : m4[k]? with
              | none =>
                refine (c3.none' ?_).elim
                show (match toD z m3 with
                  | some (.ok d, m1) => _
                  | _ => none) = none
                simp only [e4, q]
              | some ob =>
                have hob := h4.obj k a ob ea q
                cases ob with
                | l ds =>
                  obtain ⟨vs, ha, rv⟩ := hob
                  cases qj : ixN ds.length i with
                  | none =>
                    refine (c3.none' ?_).elim
                    show (match toD z m3 with
                      | some (.ok d, m1) => _
                      | _ => none) = none
                    simp only [e4, q, qj]
                  | some j =>
                    have cf := e5 (Out.nx env, m4.set k (.l (ds.set j d))) (by simp only [e4, q, qj])
                    obtain ⟨o, m', e, p⟩ := cf
                    cases e
                    refine ⟨a, vs, i, j, rfl, rfl, ha, by rw [rv.length]; exact qj, ?_⟩
                    exact p w4 _ l4 (h4.set ea q rfl (o := .lst (vs.set j v)) (x := .l (ds.set j d)) ⟨_, upd_same, rv.set r4 j⟩ rfl) σ (he3.mono l4)
                | dk ks ds =>
                  refine (c3.none' ?_).elim
                  show (match toD z m3 with
                    | some (.ok d, m1) => _
                    | _ => none) = none
                  simp only [e4, q]
                | fz x =>
                  refine (c3.none' ?_).elim
                  show (match toD z m3 with
                    | some (.ok d, m1) => _
                    | _ => none) = none
                  simp only [e4, q]
            · refine (c3.none' ?_).elim
              show (match toD z m3 with
                | some (.ok d, m1) => _
                | _ => none) = none
              simp only [n]
          | _ => exact (c3.none' rfl).elim⟩⟩⟩
end
end MR

namespace MR
open PySem PySem.Spec PyProof.Rows L2
/-! ### what a def is worth: on its arguments and the owned objects that it is handed -/
abbrev Ct := List Sv → Mem → Option (Except Xc Sv × Mem)
def spCt (G : Gm) (n : Nat) (ct : Ct) : Sp := fun vs H Q E => ∃ w args m r m', args.length = n ∧ Hm G.K w m H ∧ RpL G.K w args vs ∧ ct args m = some (r, m') ∧ ∀ w' H', Wd.Le w w' → Hm G.K w' m' H' → match r with
  | .ok x => ∀ v, RpS G.K w' x v → Q v H'
  | .error e => ∀ cls d, RpX G w' e cls d H' → E cls d H'
def refsOf : List Sv → List Nat
  | [] => []
  | .r k :: xs => k :: refsOf xs
  | .d _ :: xs => refsOf xs
def renum : List Sv → Nat → List Sv
  | [], _ => []
  | .r _ :: xs, n => .r n :: renum xs (n + 1)
  | .d x :: xs, n => .d x :: renum xs n
def getAll : List Nat → Mem → Option Mem
  | [], _ => some []
  | k :: ks, m => match m[k]?, getAll ks m with
    | some o, some os => if isFz o = false then some (o :: os) else none
    | _, _ => none
def putAll : List Nat → Mem → Mem → Mem
  | k :: ks, o :: os, m => putAll ks os (m.set k o)
  | _, _, m => m
def gCall (ct : Ct) (args : List Sv) : M Sv := fun m =>
  if (refsOf args).Nodup then match getAll (refsOf args) m with
    | none => none
    | some sub => (match ct (renum args 0) sub with
      | none => none
      | some (.error e, sub') => if (refsOf args).length ≤ sub'.length then some (.error e, putAll (refsOf args) sub' m) else none
      | some (.ok (.d x), sub') => if (refsOf args).length ≤ sub'.length then some (.ok (.d x), putAll (refsOf args) sub' m) else none
      | some (.ok (.r j), sub') => if (refsOf args).length ≤ sub'.length then (match (refsOf args)[j]? with
        | some k => some (.ok (.r k), putAll (refsOf args) sub' m)
        | none => (match sub'[j]? with
          | some o => some (.ok (.r m.length), putAll (refsOf args) sub' m ++ [o])
          | none => none)) else none)
  else none
theorem put_len : ∀ (hs : List Nat) (os m : Mem), (putAll hs os m).length = m.length
  | [], _, m => rfl
  | _ :: _, [], m => rfl
  | k :: ks, o :: os, m => by
    show (putAll ks os (m.set k o)).length = m.length
    rw [put_len ks os, List.length_set]
theorem put_out : ∀ {hs : List Nat} {os m : Mem} {k : Nat}, k ∉ hs → (putAll hs os m)[k]? = m[k]?
  | [], _, m, k, _ => rfl
  | _ :: _, [], m, k, _ => rfl
  | h :: hs, o :: os, m, k, hk => by
    show (putAll hs os (m.set h o))[k]? = m[k]?
    rw [put_out fun z => hk (List.mem_cons_of_mem _ z), List.getElem?_set_ne]
    intro z
    exact hk (by rw [z]; exact List.mem_cons_self)
theorem put_in : ∀ {hs : List Nat} {os m : Mem} {i k : Nat} {o : Mo}, hs.Nodup → hs[i]? = some k → os[i]? = some o → k < m.length → (putAll hs os m)[k]? = some o
  | [], _, m, i, k, o, _, h, _, _ => by simp at h
  | _ :: _, [], m, i, k, o, _, _, h, _ => by simp at h
  | h :: hs, o :: os, m, 0, k, o', nd, e1, e2, hk => by
    simp at e1 e2
    subst e1
    subst e2
    show (putAll hs os (m.set h o))[h]? = some o
    rw [put_out (List.nodup_cons.mp nd).1, List.getElem?_set_self hk]
  | h :: hs, o :: os, m, i + 1, k, o', nd, e1, e2, hk => by
    show (putAll hs os (m.set h o))[k]? = some o'
    exact put_in (i := i) (List.nodup_cons.mp nd).2 (by simpa using e1) (by simpa using e2) (by rw [List.length_set]; exact hk)
theorem getAll_get : ∀ {hs : List Nat} {m sub : Mem}, getAll hs m = some sub → sub.length = hs.length ∧ ∀ (i k : Nat), hs[i]? = some k → ∃ o, m[k]? = some o ∧ sub[i]? = some o ∧ isFz o = false
  | [], m, sub, h => by
    cases h
    exact ⟨rfl, fun i k e => by simp at e⟩
  | h :: hs, m, sub, e => by
    unfold getAll at e
    split at e
    · rename_i o os h1 h2
      split at e
      · rename_i hf
        cases e
        obtain ⟨hl, hg⟩ := getAll_get h2
        refine ⟨by rw [List.length_cons, List.length_cons, hl], fun i k e => ?_⟩
        cases i with
        | zero =>
          simp at e
          subst e
          exact ⟨o, h1, rfl, hf⟩
        | succ i => exact hg i k (by simpa using e)
      · cases e
    · cases e
theorem renum_rep {K : PySem.W.Frag} {w wc : Wd} (hI : Ex w.I wc.I) : ∀ {args : List Sv} {vs : List V} {n : Nat}, RpL K w args vs → (∀ i k, (refsOf args)[i]? = some k → ∀ a, w.φ[k]? = some a → wc.φ[n + i]? = some a) → RpL K wc (renum args n) vs
  | _, _, _, .nil, _ => .nil
  | .d x :: xs, _, n, .cons h r, p => .cons (x := .d x) (Rp.mono hI h) (renum_rep hI r p)
  | .r k :: xs, _, n, .cons h r, p => by
    obtain ⟨a, ea, rfl⟩ := h
    refine .cons (x := .r n) ⟨a, p 0 k rfl a ea, rfl⟩ (renum_rep hI r fun i j e b eb => ?_)
    have := p (i + 1) j (by exact e) b eb
    rwa [Nat.add_assoc, Nat.add_comm 1 i]
theorem RpM.tr {K : PySem.W.Frag} {I I' H H' : Hp} {a : Addr} {x : Mo} (e : Ex I I') (h : ∀ o, H a = some o → H' a = some o) (r : RpM K I H a x) : RpM K I' H' a x := by
  cases x with
  | l ds =>
    obtain ⟨vs, z, q⟩ := r
    exact ⟨vs, h _ z, q.mono e⟩
  | dk ks ds =>
    obtain ⟨vs, z, hl, q⟩ := r
    exact ⟨vs, h _ z, hl, q.mono e⟩
  | fz d => exact Rp.mono e r
theorem RpM.live {K : PySem.W.Frag} {I H : Hp} {a : Addr} {x : Mo} (f : isFz x = false) (r : RpM K I H a x) : ∃ o, H a = some o := by
  cases x with
  | l ds =>
    obtain ⟨vs, z, q⟩ := r
    exact ⟨_, z⟩
  | dk ks ds =>
    obtain ⟨vs, z, q⟩ := r
    exact ⟨_, z⟩
  | fz d => cases f
section
variable {G : Gm} {w : Wd} {m : Mem} {H : Hp}
open Classical in
/-- the callee's world -/
noncomputable def Wd.sub (w : Wd) (H : Hp) (as : List Addr) : Wd := ⟨as, w.I, fun x => if x ∈ as then none else H x⟩
open Classical in
/-- the caller's world behind it -/
noncomputable def Wd.back (w' : Wd) (φ : List Addr) (m : Mem) : Wd := ⟨φ, w'.I, fun x => if (∃ (k : Nat) (o : Mo), φ[k]? = some x ∧ m[k]? = some o ∧ isFz o = false) then none else w'.F x⟩
open Classical in
/-- THE CALL: the objects handed over at hs; behind it, more is a new one or none -/
theorem Hm.call (hm : Hm G.K w m H) {hs : List Nat} {sub sub' more : Mem} {as : List Addr} (nd : hs.Nodup) (hg : getAll hs m = some sub) (ha : as.length = hs.length) (has : ∀ (i k : Nat), hs[i]? = some k → w.φ[k]? = as[i]?) {w' : Wd} {H' : Hp}
    (l : Wd.Le (w.sub H as) w') (hm' : Hm G.K w' sub' H') (hn : hs.length ≤ sub'.length) {φm : List Addr} (hmore : (more = [] ∧ φm = []) ∨ ∃ (j : Nat) (o : Mo) (a : Addr), hs.length ≤ j ∧ sub'[j]? = some o ∧ w'.φ[j]? = some a ∧ more = [o] ∧ φm = [a]) :
    Wd.Le w (w'.back (w.φ ++ φm) (putAll hs sub' m ++ more)) ∧ Hm G.K (w'.back (w.φ ++ φm) (putAll hs sub' m ++ more)) (putAll hs sub' m ++ more) H' := by
  obtain ⟨hsl, hgs⟩ := getAll_get hg
  -- where an object of the caller's new memory comes from
  have cs : ∀ (k : Nat) (a : Addr) (o : Mo), (w.φ ++ φm)[k]? = some a → (putAll hs sub' m ++ more)[k]? = some o →
      (∃ i, i < hs.length ∧ hs[i]? = some k ∧ w.φ[k]? = some a ∧ as[i]? = some a ∧ sub'[i]? = some o ∧ w'.φ[i]? = some a) ∨ (k ∉ hs ∧ w.φ[k]? = some a ∧ m[k]? = some o) ∨ (k = m.length ∧ ∃ j, hs.length ≤ j ∧ sub'[j]? = some o ∧ w'.φ[j]? = some a) := by
    intro k a o ea eo
    by_cases hk : k < m.length
    · rw [List.getElem?_append_left (by rw [hm.len]; exact hk)] at ea
      rw [List.getElem?_append_left (by rw [put_len]; exact hk)] at eo
      by_cases hin : k ∈ hs
      · obtain ⟨i, hi⟩ := List.mem_iff_getElem?.mp hin
        have hil : i < hs.length := (List.getElem?_eq_some_iff.mp hi).1
        have e2 : sub'[i]? = some sub'[i] := List.getElem?_eq_getElem (by omega)
        rw [put_in nd hi e2 hk] at eo
        have ea2 : as[i]? = some a := by rw [← has i k hi]; exact ea
        exact .inl ⟨i, hil, hi, ea, ea2, by rw [e2, eo], l.φ i a ea2⟩
      · rw [put_out hin] at eo
        exact .inr (.inl ⟨hin, ea, eo⟩)
    · rcases hmore with ⟨rfl, rfl⟩ | ⟨j, o', a', hj, hso, hφ, rfl, rfl⟩
      · rw [List.append_nil] at eo
        have := (List.getElem?_eq_some_iff.mp eo).1
        rw [put_len] at this
        exact absurd this hk
      · have hk2 : k = m.length := by
          have := (List.getElem?_eq_some_iff.mp eo).1
          rw [List.length_append, put_len, List.length_singleton] at this
          omega
        subst hk2
        rw [List.getElem?_append_right (by rw [put_len]; exact Nat.le_refl _), put_len, Nat.sub_self] at eo
        rw [List.getElem?_append_right (by rw [hm.len]; exact Nat.le_refl _), hm.len, Nat.sub_self] at ea
        cases eo
        cases ea
        exact .inr (.inr ⟨rfl, j, hj, hso, hφ⟩)
  -- an object that was not handed over
  have out : ∀ (k : Nat) (a : Addr) (o : Mo), k ∉ hs → w.φ[k]? = some a → m[k]? = some o → isFz o = false → a ∉ as := by
    intro k a o hk ea eo hf hin
    obtain ⟨i, hi⟩ := List.mem_iff_getElem?.mp hin
    have hil : i < hs.length := by
      have := (List.getElem?_eq_some_iff.mp hi).1
      omega
    have hik : hs[i]? = some hs[i] := List.getElem?_eq_getElem hil
    obtain ⟨o2, e2, _, f2⟩ := hgs i _ hik
    have e3 : w.φ[hs[i]]? = some a := by rw [has i _ hik]; exact hi
    have := hm.inj k hs[i] a o o2 ea e3 eo e2 hf f2
    exact hk (by rw [this]; exact List.getElem_mem hil)
  have kept : ∀ (a : Addr) (o : HO), a ∉ as → H a = some o → w'.F a = some o := by
    intro a o hn ho
    refine l.F a o ?_
    show (if a ∈ as then none else H a) = some o
    rw [if_neg hn]
    exact ho
  have fnone : ∀ (i : Nat) (a : Addr), as[i]? = some a → w.F a = none := by
    intro i a hi
    have hil : i < hs.length := by
      have := (List.getElem?_eq_some_iff.mp hi).1
      omega
    have hik : hs[i]? = some hs[i] := List.getElem?_eq_getElem hil
    obtain ⟨o2, e2, _, f2⟩ := hgs i _ hik
    exact hm.own hs[i] a o2 (by rw [has i _ hik]; exact hi) e2 f2
  -- what lives is not in the frame
  have dead : ∀ (k : Nat) (a : Addr) (o : Mo), (w.φ ++ φm)[k]? = some a → (putAll hs sub' m ++ more)[k]? = some o → isFz o = false → w.F a = none ∧ w'.I a = none := by
    intro k a o ea eo hf
    have noI : w'.F a = none → w'.I a = none := fun z => hm'.exI.back z
    rcases cs k a o ea eo with ⟨i, hil, hi, h1, h2, h3, h4⟩ | ⟨hk, h1, h2⟩ | ⟨hk, j, hj, h1, h2⟩
    · exact ⟨fnone i a h2, noI (hm'.own i a o h4 h3 hf)⟩
    · have h3 := hm.own k a o h1 h2 hf
      obtain ⟨ho, e⟩ := RpM.live hf (hm.obj k a o h1 h2)
      have ho' := out k a o hk h1 h2 hf
      refine ⟨h3, l.no a ho ?_ (hm.exI.back h3)⟩
      show (if a ∈ as then none else H a) = some ho
      rw [if_neg ho']
      exact e
    · have h3 := hm'.own j a o h2 h1 hf
      refine ⟨?_, noI h3⟩
      cases q : w.F a with
      | none => rfl
      | some x =>
        have hn : a ∉ as := fun z => by
          obtain ⟨i, hi⟩ := List.mem_iff_getElem?.mp z
          rw [fnone i a hi] at q
          cases q
        rw [kept a x hn (hm.exF a x q)] at h3
        cases h3
  have F2 : ∀ (x : Addr) (o : HO), (¬ ∃ (k : Nat) (o : Mo), (w.φ ++ φm)[k]? = some x ∧ (putAll hs sub' m ++ more)[k]? = some o ∧ isFz o = false) → w'.F x = some o → (w'.back (w.φ ++ φm) (putAll hs sub' m ++ more)).F x = some o := by
    intro x o hx e
    show (if _ then none else w'.F x) = some o
    rw [if_neg hx]
    exact e
  refine ⟨⟨fun k x e => ?_, l.I, fun x o e => ?_, fun x o e n => ?_⟩, ⟨fun x o e => ?_, fun x o e => ?_, ?_, fun k a o ea eo => ?_, fun k a o ea eo hf => ?_, fun i k a o o' ei ek oi ok hf hf' => ?_⟩⟩
  · show (w.φ ++ φm)[k]? = some x
    rw [List.getElem?_append_left (List.getElem?_eq_some_iff.mp e).1]
    exact e
  · refine F2 x o ?_ ?_
    · rintro ⟨k, o', ea, eo, hf⟩
      rw [(dead k x o' ea eo hf).1] at e
      cases e
    · refine kept x o (fun z => ?_) (hm.exF x o e)
      obtain ⟨i, hi⟩ := List.mem_iff_getElem?.mp z
      rw [fnone i x hi] at e
      cases e
  · refine l.no x o ?_ n
    show (if x ∈ as then none else H x) = some o
    rw [if_neg fun z => ?_]
    · exact hm.exF x o e
    · obtain ⟨i, hi⟩ := List.mem_iff_getElem?.mp z
      rw [fnone i x hi] at e
      cases e
  · refine F2 x o ?_ (hm'.exI x o e)
    rintro ⟨k, o', ea, eo, hf⟩
    have e' : w'.I x = some o := e
    rw [(dead k x o' ea eo hf).2] at e'
    cases e'
  · have e' : (if (∃ (k : Nat) (o : Mo), (w.φ ++ φm)[k]? = some x ∧ (putAll hs sub' m ++ more)[k]? = some o ∧ isFz o = false) then none else w'.F x) = some o := e
    split at e'
    · cases e'
    · exact hm'.exF x o e'
  · show (w.φ ++ φm).length = _
    rcases hmore with ⟨rfl, rfl⟩ | ⟨j, o', a', hj, hso, hφ, rfl, rfl⟩
    · rw [List.append_nil, List.append_nil, put_len, hm.len]
    · rw [List.length_append, List.length_append, put_len, hm.len]
      rfl
  · show RpM G.K w'.I H' a o
    rcases cs k a o ea eo with ⟨i, hil, hi, h1, h2, h3, h4⟩ | ⟨hk, h1, h2⟩ | ⟨hk, j, hj, h1, h2⟩
    · exact hm'.obj i a o h4 h3
    · cases hf : isFz o with
      | true => exact RpM.fz l.I hf (hm.obj k a o h1 h2)
      | false => exact RpM.tr l.I (fun x hx => hm'.exF a x (kept a x (out k a o hk h1 h2 hf) hx)) (hm.obj k a o h1 h2)
    · exact hm'.obj j a o h2 h1
  · show (if _ then none else w'.F a) = none
    rw [if_pos ⟨k, o, ea, eo, hf⟩]
  · have ei' : (w.φ ++ φm)[i]? = some a := ei
    have ek' : (w.φ ++ φm)[k]? = some a := ek
    rcases cs i a o ei' oi with ⟨p, hpl, hp, p1, p2, p3, p4⟩ | ⟨hi, p1, p2⟩ | ⟨hi, p, hp, p1, p2⟩
    · rcases cs k a o' ek' ok with ⟨q, hql, hq, q1, q2, q3, q4⟩ | ⟨hk, q1, q2⟩ | ⟨hk, q, hq, q1, q2⟩
      · have := hm'.inj p q a o o' p4 q4 p3 q3 hf hf'
        subst this
        rw [hp] at hq
        cases hq
        rfl
      · exact absurd (List.mem_of_getElem? p2) (out k a o' hk q1 q2 hf')
      · have := hm'.inj p q a o o' p4 q2 p3 q1 hf hf'
        omega
    · rcases cs k a o' ek' ok with ⟨q, hql, hq, q1, q2, q3, q4⟩ | ⟨hk, q1, q2⟩ | ⟨hk, q, hq, q1, q2⟩
      · exact absurd (List.mem_of_getElem? q2) (out i a o hi p1 p2 hf)
      · exact hm.inj i k a o o' p1 q1 p2 q2 hf hf'
      · obtain ⟨ho, e⟩ := RpM.live hf (hm.obj i a o p1 p2)
        have z := kept a ho (out i a o hi p1 p2 hf) e
        rw [hm'.own q a o' q2 q1 hf'] at z
        cases z
    · rcases cs k a o' ek' ok with ⟨q, hql, hq, q1, q2, q3, q4⟩ | ⟨hk, q1, q2⟩ | ⟨hk, q, hq, q1, q2⟩
      · have := hm'.inj p q a o o' p2 q4 p1 q3 hf hf'
        omega
      · obtain ⟨ho, e⟩ := RpM.live hf' (hm.obj k a o' q1 q2)
        have z := kept a ho (out k a o' hk q1 q2 hf') e
        rw [hm'.own p a o p2 p1 hf] at z
        cases z
      · rw [hi, hk]
open Classical in
/-- the callee is handed its part -/
theorem Hm.sub (hm : Hm G.K w m H) {hs : List Nat} {sub : Mem} {as : List Addr} (nd : hs.Nodup) (hg : getAll hs m = some sub) (ha : as.length = hs.length) (has : ∀ (i k : Nat), hs[i]? = some k → w.φ[k]? = as[i]?) : Hm G.K (w.sub H as) sub H := by
  obtain ⟨hsl, hgs⟩ := getAll_get hg
  have back : ∀ (i : Nat) (a : Addr) (o : Mo), as[i]? = some a → sub[i]? = some o → ∃ k, hs[i]? = some k ∧ w.φ[k]? = some a ∧ m[k]? = some o ∧ isFz o = false := by
    intro i a o hi ho
    have hil : i < hs.length := by
      have := (List.getElem?_eq_some_iff.mp hi).1
      omega
    have hik : hs[i]? = some hs[i] := List.getElem?_eq_getElem hil
    obtain ⟨o2, e2, e3, f2⟩ := hgs i _ hik
    rw [e3] at ho
    cases ho
    exact ⟨_, hik, by rw [has i _ hik]; exact hi, e2, f2⟩
  refine ⟨fun x o e => ?_, fun x o e => ?_, ?_, fun i a o ea eo => ?_, fun i a o ea eo hf => ?_, fun i j a o o' ei ej oi oj hf hf' => ?_⟩
  · show (if x ∈ as then none else H x) = some o
    rw [if_neg fun z => ?_]
    · exact hm.exF x o (hm.exI x o e)
    · obtain ⟨i, hi⟩ := List.mem_iff_getElem?.mp z
      have hil : i < hs.length := by
        have := (List.getElem?_eq_some_iff.mp hi).1
        omega
      obtain ⟨k, _, h1, h2, h3⟩ := back i x sub[i] hi (List.getElem?_eq_getElem (by omega))
      have := hm.own k x _ h1 h2 h3
      have e' : w.I x = some o := e
      rw [hm.exI.back this] at e'
      cases e'
  · have e' : (if x ∈ as then none else H x) = some o := e
    split at e'
    · cases e'
    · exact e'
  · show as.length = sub.length
    omega
  · obtain ⟨k, _, h1, h2, h3⟩ := back i a o ea eo
    exact hm.obj k a o h1 h2
  · show (if a ∈ as then none else H a) = none
    rw [if_pos (List.mem_of_getElem? (show as[i]? = some a from ea))]
  · obtain ⟨k, k1, h1, h2, h3⟩ := back i a o ei oi
    obtain ⟨k', k2, h4, h5, h6⟩ := back j a o' ej oj
    have := hm.inj k k' a o o' h1 h4 h2 h5 h3 h6
    subst this
    exact L2.nd_ix nd k1 k2
theorem refs_addr {args : List Sv} {vs : List V} (h : RpL G.K w args vs) : ∃ as : List Addr, as.length = (refsOf args).length ∧ ∀ (i k : Nat), (refsOf args)[i]? = some k → w.φ[k]? = as[i]? ∧ ∃ a, as[i]? = some a := by
  induction h with
  | nil => exact ⟨[], rfl, fun i k e => by simp [refsOf] at e⟩
  | @cons x v xs vs h r ih =>
    obtain ⟨as, hl, ih⟩ := ih
    cases x with
    | d x => exact ⟨as, hl, ih⟩
    | r k =>
      obtain ⟨a, ea, _⟩ := h
      refine ⟨a :: as, by rw [List.length_cons, hl]; rfl, fun i j e => ?_⟩
      cases i with
      | zero =>
        have e' : k = j := by simpa [refsOf] using e
        subst e'
        exact ⟨ea, a, rfl⟩
      | succ i => exact ih i j (by simpa [refsOf] using e)
/-- a call keeps what the callee promises -/
theorem call_ct {W : WX} {σ : L2.St} {ct : Ct} {n : Nat} {args : List Sv} {vs : List V} {Q : VK} (hm : Hm G.K w m H) (ha : RpL G.K w args vs) (hn : args.length = n) (c : CoE G W σ Q w (gCall ct args) m) : spCt G n ct vs H Q (fun cls d H' => W cls d σ H') := by
  obtain ⟨r, m', e, p⟩ := c
  unfold gCall at e
  split at e
  · rename_i nd
    split at e
    · cases e
    · rename_i sub hg
      obtain ⟨as, hl, has⟩ := refs_addr ha
      have has1 : ∀ (i k : Nat), (refsOf args)[i]? = some k → w.φ[k]? = as[i]? := fun i k h => (has i k h).1
      have hsub := hm.sub nd hg hl has1
      have hrl : ∀ (xs : List Sv) (n : Nat), (renum xs n).length = xs.length := by
        intro xs
        induction xs with
        | nil => intro n; rfl
        | cons x xs ih =>
          intro n
          cases x with
          | d x => exact congrArg (· + 1) (ih n)
          | r k => exact congrArg (· + 1) (ih (n + 1))
      have hrep : RpL G.K (w.sub H as) (renum args 0) vs := renum_rep (w := w) (wc := w.sub H as) (n := 0) (Ex.refl w.I) ha fun i k h a ea => by
        rw [Nat.zero_add]
        show as[i]? = some a
        rw [← has1 i k h]
        exact ea
      split at e
      · cases e
      · rename_i x sub' hc
        split at e
        · rename_i hle
          cases e
          refine ⟨w.sub H as, renum args 0, sub, .error x, sub', by rw [hrl]; exact hn, hsub, hrep, hc, fun w' H' l hm' cls d q => ?_⟩
          obtain ⟨l2, h2⟩ := hm.call (more := []) (φm := []) nd hg hl has1 l hm' hle (.inl ⟨rfl, rfl⟩)
          rw [List.append_nil, List.append_nil] at l2 h2
          have q2 := p _ H' l2 h2
          refine q2 cls d ?_
          cases x with
          | mk c fs => exact q
        · cases e
      · rename_i x sub' hc
        split at e
        · rename_i hle
          cases e
          refine ⟨w.sub H as, renum args 0, sub, .ok (.d x), sub', by rw [hrl]; exact hn, hsub, hrep, hc, fun w' H' l hm' v hv => ?_⟩
          obtain ⟨l2, h2⟩ := hm.call (more := []) (φm := []) nd hg hl has1 l hm' hle (.inl ⟨rfl, rfl⟩)
          rw [List.append_nil, List.append_nil] at l2 h2
          exact p _ H' l2 h2 v hv
        · cases e
      · rename_i j sub' hc
        split at e
        · rename_i hle
          refine ⟨w.sub H as, renum args 0, sub, .ok (.r j), sub', by rw [hrl]; exact hn, hsub, hrep, hc, fun w' H' l hm' v hv => ?_⟩
          obtain ⟨a, ea, rfl⟩ := hv
          split at e
          · rename_i k hk
            cases e
            obtain ⟨l2, h2⟩ := hm.call (more := []) (φm := []) nd hg hl has1 l hm' hle (.inl ⟨rfl, rfl⟩)
            rw [List.append_nil, List.append_nil] at l2 h2
            refine p _ H' l2 h2 _ ⟨a, ?_, rfl⟩
            show w.φ[k]? = some a
            obtain ⟨h3, b, h4⟩ := has j k hk
            have h5 := l.φ j b h4
            rw [ea] at h5
            cases h5
            rw [h3, h4]
          · rename_i hk
            split at e
            · rename_i o ho
              cases e
              have hj : (refsOf args).length ≤ j := List.getElem?_eq_none_iff.mp hk
              obtain ⟨l2, h2⟩ := hm.call (more := [o]) (φm := [a]) nd hg hl has1 l hm' hle (.inr ⟨j, o, a, hj, ho, ea, rfl, rfl⟩)
              refine p _ H' l2 h2 _ ⟨a, ?_, rfl⟩
              show (w.φ ++ [a])[m.length]? = some a
              rw [List.getElem?_append_right (by rw [hm.len]; exact Nat.le_refl _), hm.len, Nat.sub_self]
              rfl
            · cases e
        · cases e
  · cases e
end
section
variable {X : Cx} {G : Gm} {W : WX} {e : Expr} {es : List Expr} {fs : Env → M (List Sv)} {pos p : Pos} {k n : Nat} {f : Addr} {fd : FuncData} {ps : List Str} {ct : Ct} {x : Str}
/-- a def's promise, by its name -/
structure Df (X : Cx) (G : Gm) (x : Str) (n : Nat) (ct : Ct) : Prop where
  ok : ∃ (f : Addr) (fd : FuncData) (ps : List Str) (k : Nat), FnOk X.prog X.w X.K X.mg X.base (L2.CX X.prog X.w) k f fd ps (spCt G n ct) ∧ Room k X.A ∧ X.mg x = some (.ref f) ∧ PySem.W.keepIn X.K (.ref f) = true ∧ Binds X.K fd ps []
def gLen (n : Nat) (g : List Sv → M Sv) : List Sv → M Sv := fun xs => M.if (xs.length = n) (g xs)
theorem ie_call (F : Df X G x n ct) (tk : Takes X W) (hg : Gl X x) (ha : PA X (e :: es) (tA G W fs)) (hdb : (x == ("__debug__" : Str)) = false := by decide)
    (he : starEach (e :: es) X.env = (false, eval e X.env) :: starEach es X.env := by rfl) (hpl : (backTo pos (starEach es X.env)).any (·.1) = false := by rfl) : PE X (.Call (.Name x p) (e :: es) [] pos) (tI G W (fL (gLen n (gCall ct)) fs)) := by
  obtain ⟨f, fd, ps, k, F, hr, hm, hk, hb⟩ := F.ok
  exact (pe_callS F hr hg hm hk hb (E := WE W) (fun σ => passAt tk σ) ha hdb he hpl).imp fun σ H Q ⟨w, env, m, hm, he, c⟩ => ⟨w, env, m, hm, he, bdAE c fun w1 m1 H1 xs vs l1 hm1 hx c1 => by
    obtain ⟨hl, c2⟩ := c1.ifc
    exact call_ct hm1 hx hl c2⟩
end
end MR

namespace MR
open PySem PySem.Spec PyProof.Rows L2
/-! ### a def keeps its contract -/
/-- the end of a body: n owned objects were handed over -/
def fin (n : Nat) : Out × Mem → Option (Except Xc Sv × Mem)
  | (.rt (.r j), m) => if j < n then some (.ok (.r j), m.take n) else (match toD (.r j) m with
    | some (.ok d, m2) => some (.ok (.d d), m2.take n)
    | _ => none)
  | (.rt (.d d), m) => some (.ok (.d d), m.take n)
  | (.nx _, m) => some (.ok (.d .non), m.take n)
  | (.rs _ e, m) => some (.error e, m.take n)
  | _ => none
/-- the same of a def that hands back an object of its own -/
def finO (n : Nat) : Out × Mem → Option (Except Xc Sv × Mem)
  | (.rt (.r j), m) => if n ≤ j then (match m[j]? with
    | some o => some (.ok (.r n), m.take n ++ [o])
    | none => none) else none
  | _ => none
theorem Hm.take {K : PySem.W.Frag} {w : Wd} {m : Mem} {H : Hp} (h : Hm K w m H) (n : Nat) : Hm K ⟨w.φ.take n, w.I, w.F⟩ (m.take n) H where
  exI := h.exI
  exF := h.exF
  len := by
    show (w.φ.take n).length = (m.take n).length
    rw [List.length_take, List.length_take, h.len]
  obj := fun k a o ea eo => by
    have ea' : (w.φ.take n)[k]? = some a := ea
    rw [List.getElem?_take] at ea' eo
    split at ea'
    · rename_i hk
      rw [if_pos hk] at eo
      exact h.obj k a o ea' eo
    · cases ea'
  own := fun k a o ea eo hf => by
    have ea' : (w.φ.take n)[k]? = some a := ea
    rw [List.getElem?_take] at ea' eo
    split at ea'
    · rename_i hk
      rw [if_pos hk] at eo
      exact h.own k a o ea' eo hf
    · cases ea'
  inj := fun j k a o o' ej ek oj ok hf hf' => by
    have ej' : (w.φ.take n)[j]? = some a := ej
    have ek' : (w.φ.take n)[k]? = some a := ek
    rw [List.getElem?_take] at ej' ek' oj ok
    split at ej'
    · rename_i hj
      rw [if_pos hj] at oj
      split at ek'
      · rename_i hk
        rw [if_pos hk] at ok
        exact h.inj j k a o o' ej' ek' oj ok hf hf'
      · cases ek'
    · cases ej'
theorem RpE.start {K : PySem.W.Frag} {w : Wd} {args : List Sv} {vs : List V} {N : List Str} (h : RpL K w args vs) : RpE K w (args.map some ++ List.replicate (N.length - args.length) none) (L2.start N vs) := by
  have hl := h.length
  unfold L2.start
  refine ⟨by simp [hl], fun i x e => ?_⟩
  have hi : i < args.length := by
    by_cases hi : i < args.length
    · exact hi
    · rw [List.getElem?_append_right (by simpa using hi), List.getElem?_replicate] at e
      split at e <;> cases e
  rw [List.getElem?_append_left (by simpa using hi), List.getElem?_map] at e
  rw [List.getElem?_append_left (by rw [List.length_map, ← hl]; exact hi)]
  clear hl
  induction h generalizing i with
  | nil => simp at hi
  | @cons y v xs vs a b ih =>
    cases i with
    | zero =>
      simp at e
      subst e
      exact ⟨v, by simp, a⟩
    | succ i =>
      obtain ⟨u, h1, h2⟩ := ih i (by simpa using e) (by simpa using hi)
      exact ⟨u, by simpa using h1, h2⟩
/-- a body run, to its end -/
def runB (fi : Nat → Out × Mem → Option (Except Xc Sv × Mem)) (f : SM) (k : Nat) (args : List Sv) (m : Mem) : Option (Except Xc Sv × Mem) := match f (args.map some ++ List.replicate (k - args.length) none) m with
  | some o => fi m.length o
  | none => none
/-- a def of the text, by its name -/
structure Tf (K : PySem.W.Frag) (mg : Str → Option Value) (x : Str) (st : Stmt) : Prop where
  ex : ∃ (f : Addr) (fd : FuncData), Fun K x x st f fd ∧ mg x = some (.ref f)
/-- what it promises, whoever calls it -/
structure Dg (P : Program) (w : World) (K : PySem.W.Frag) (mg : Str → Option Value) (base : Heap) (G : Gm) (k : Nat) (x : Str) (n : Nat) (ct : Ct) : Prop where
  ok : ∃ (f : Addr) (fd : FuncData) (ps : List Str), FnOk P w K mg base (L2.CX P w) k f fd ps (spCt G n ct) ∧ mg x = some (.ref f) ∧ PySem.W.keepIn K (.ref f) = true ∧ Binds K fd ps []
theorem Dg.df {X : Cx} {G : Gm} {k j : Nat} {x : Str} {n : Nat} {ct : Ct} (D : Dg X.prog X.w X.K X.mg X.base G k x n ct) (hr : Room j X.A) (h : k ≤ j := by decide) : Df X G x n ct := by
  obtain ⟨f, fd, ps, F, hm, hk, hb⟩ := D.ok
  exact ⟨f, fd, ps, k, F, hr.mono h, hm, hk, hb⟩
section
variable {P : Program} {w : World} {K : PySem.W.Frag} {mg : Str → Option Value} {base : Heap} {G : Gm}
/-- where a def's body runs -/
abbrev XB (P : Program) (w : World) (K : PySem.W.Frag) (mg : Str → Option Value) (base : Heap) (x : Str) (N : List Str) (st : Stmt) (f : Addr) (cdv : Value) (A : Around) (outer : List PySem.Env) (s : Shared) (H : Hp) (E : XK) : Cx := cxOf (L2.CX P w) P w K mg base N x (defScope st) f cdv A outer s H E
abbrev WB (E : XK) : WX := fun cls d _ H => E cls d H
theorem dg_fn {x : Str} {st : Stmt} {N ps : List Str} {k : Nat} {ct : Ct} {f : Addr} {fd : FuncData} (F : Fun K x x st f fd) (S : FnScope N ps (defScope st))
    (fi : Nat → Out × Mem → Option (Except Xc Sv × Mem)) (hfi : fi = fin ∨ fi = finO)
    (hb : ∃ f : SM, (∀ (fa : Addr) (cdv : Value) (A : Around) (outer : List PySem.Env) (s : Shared) (H : Hp) (E : XK), Room k (XB P w K mg base x N st fa cdv A outer s H E).A → Takes (XB P w K mg base x N st fa cdv A outer s H E) (WB E) →
        PassesOwn (model P w) (XB P w K mg base x N st fa cdv A outer s H E).A (XB P w K mg base x N st fa cdv A outer s H E).env (XB P w K mg base x N st fa cdv A outer s H E).xe → PSs (XB P w K mg base x N st fa cdv A outer s H E) (defBody st) (tS G (WB E) f)) ∧
      ∀ args m r m', args.length = ps.length → ct args m = some (r, m') → runB fi f N.length args m = some (r, m'))
    (hK : G.K = K) : FnOk P w K mg base (L2.CX P w) (k + 1) f fd ps (spCt G ps.length ct) := by
  obtain ⟨fb, hder, hct⟩ := hb
  refine F.okX S (fun vs H Q E h => ?_) (fun cdv A outer s H vs Q E hr h => ?_)
  · obtain ⟨w0, args, m, r, m', hl, hm, ha, _⟩ := h
    rw [← hl]
    exact ha.length.symm
  · obtain ⟨w0, args, m, r, m', hl, hm, ha, hc, q⟩ := h
    have htk : Takes (XB P w K mg base x N st f cdv A outer s H E) (WB E) := takes_of rfl rfl rfl rfl
    have hpo : PassesOwn (model P w) (XB P w K mg base x N st f cdv A outer s H E).A (XB P w K mg base x N st f cdv A outer s H E).env (XB P w K mg base x N st f cdv A outer s H E).xe := PassesOwn.leaving
    refine ⟨_, hder f cdv A outer s H E hr htk hpo, ?_⟩
    obtain ⟨⟨o, m2⟩, hf, hfin⟩ : ∃ o, fb (args.map some ++ List.replicate (N.length - args.length) none) m = some o ∧ fi m.length o = some (r, m') := by
      have h := hct args m r m' hl hc
      unfold runB at h
      split at h
      · rename_i o ho
        exact ⟨o, ho, h⟩
      · cases h
    have hmn : w0.φ.length = m.length := hm.len
    refine ⟨w0, _, m, hm, RpE.start ha, o, m2, hf, fun w' H' l hm' => ?_⟩
    -- the world that the caller sees
    have lt : Wd.Le w0 ⟨w'.φ.take m.length, w'.I, w'.F⟩ := ⟨fun k a e => by
      show (w'.φ.take m.length)[k]? = some a
      rw [List.getElem?_take, if_pos (by have := (List.getElem?_eq_some_iff.mp e).1; omega)]
      exact l.φ k a e, l.I, l.F, l.no⟩
    rcases hfi with rfl | rfl
    · cases o with
      | nx env =>
        cases hfin
        exact fun σ _ => q _ H' lt (hm'.take _) .non Rp.non
      | bk env => cases hfin
      | ct env => cases hfin
      | rs env e =>
        cases hfin
        intro σ cls d _ hx
        refine q _ H' lt (hm'.take _) cls d ?_
        cases e with
        | mk c fs => exact hx
      | rt y =>
        cases y with
        | d y =>
          cases hfin
          exact fun v hv => q _ H' lt (hm'.take _) v hv
        | r j =>
          have e : (if j < m.length then some (Except.ok (Sv.r j), m2.take m.length) else (match toD (.r j) m2 with
            | some (.ok d, m3) => some (.ok (.d d), m3.take m.length)
            | _ => none)) = some (r, m') := hfin
          intro v hv
          split at e
          · rename_i hj
            cases e
            obtain ⟨a, ea, rfl⟩ := hv
            refine q _ H' lt (hm'.take _) _ ⟨a, ?_, rfl⟩
            show (w'.φ.take m.length)[j]? = some a
            rw [List.getElem?_take, if_pos hj]
            exact ea
          · rcases vD hm' hv with ⟨d, m3, w3, e3, l3, h3, r3⟩ | n
            · rw [e3] at e
              cases e
              have l4 : Wd.Le w0 ⟨w3.φ.take m.length, w3.I, w3.F⟩ := ⟨fun k a e => by
                show (w3.φ.take m.length)[k]? = some a
                rw [List.getElem?_take, if_pos (by have := (List.getElem?_eq_some_iff.mp e).1; omega)]
                exact l3.φ k a (l.φ k a e), (l.trans l3).I, (l.trans l3).F, (l.trans l3).no⟩
              exact q _ H' l4 (h3.take _) v r3
            · rw [n] at e
              cases e
    · cases o with
      | rt y =>
        cases y with
        | d y => cases hfin
        | r j =>
          have e : (if m.length ≤ j then (match m2[j]? with
            | some o => some (Except.ok (Sv.r m.length), m2.take m.length ++ [o])
            | none => none) else none) = some (r, m') := hfin
          intro v hv
          obtain ⟨a, ea, rfl⟩ := hv
          split at e
          · rename_i hj
            split at e
            · rename_i o ho
              cases e
              have hl2 : (m2.take m.length).length = m.length := by
                have := (List.getElem?_eq_some_iff.mp ho).1
                rw [List.length_take]
                omega
              have hl3 : (w'.φ.take m.length).length = m.length := by
                rw [List.length_take, hm'.len]
                rw [List.length_take] at hl2
                exact hl2
              have cs : ∀ (k : Nat) (b : Addr) (u : Mo), (w'.φ.take m.length ++ [a])[k]? = some b → (m2.take m.length ++ [o])[k]? = some u → ∃ k', (k' = k ∧ k < m.length ∨ k' = j ∧ k = m.length) ∧ w'.φ[k']? = some b ∧ m2[k']? = some u := by
                intro k b u eb eu
                by_cases hk : k < m.length
                · rw [List.getElem?_append_left (by omega), List.getElem?_take, if_pos hk] at eb
                  rw [List.getElem?_append_left (by omega), List.getElem?_take, if_pos hk] at eu
                  exact ⟨k, .inl ⟨rfl, hk⟩, eb, eu⟩
                · have hk2 : k = m.length := by
                    have := (List.getElem?_eq_some_iff.mp eu).1
                    rw [List.length_append, List.length_singleton] at this
                    omega
                  subst hk2
                  rw [List.getElem?_append_right (by omega), hl3, Nat.sub_self] at eb
                  rw [List.getElem?_append_right (by omega), hl2, Nat.sub_self] at eu
                  cases eb
                  cases eu
                  exact ⟨j, .inr ⟨rfl, rfl⟩, ea, ho⟩
              refine q ⟨w'.φ.take m.length ++ [a], w'.I, w'.F⟩ H' ⟨fun k b e => ?_, l.I, l.F, l.no⟩ ⟨hm'.exI, hm'.exF, ?_, fun k b u eb eu => ?_, fun k b u eb eu hf => ?_, fun i k b u u' ei ek oi ok hf hf' => ?_⟩ _ ⟨a, ?_, rfl⟩
              · have := (List.getElem?_eq_some_iff.mp e).1
                show (w'.φ.take m.length ++ [a])[k]? = some b
                rw [List.getElem?_append_left (by omega), List.getElem?_take, if_pos (by omega)]
                exact l.φ k b e
              · show (w'.φ.take m.length ++ [a]).length = _
                rw [List.length_append, List.length_append, hl2, hl3]
                rfl
              · obtain ⟨k', _, h1, h2⟩ := cs k b u eb eu
                exact hm'.obj k' b u h1 h2
              · obtain ⟨k', _, h1, h2⟩ := cs k b u eb eu
                exact hm'.own k' b u h1 h2 hf
              · obtain ⟨i', hi, h1, h2⟩ := cs i b u ei oi
                obtain ⟨k', hk, h3, h4⟩ := cs k b u' ek ok
                have := hm'.inj i' k' b u u' h1 h3 h2 h4 hf hf'
                omega
              · show (w'.φ.take m.length ++ [a])[m.length]? = some a
                rw [List.getElem?_append_right (by omega), hl3, Nat.sub_self]
                rfl
            · cases e
          · cases e
      | nx env => cases hfin
      | bk env => cases hfin
      | ct env => cases hfin
      | rs env e => cases hfin
theorem dg_mk {x : Str} {st : Stmt} {N ps : List Str} {k : Nat} {ct : Ct} (T : Tf K mg x st) (S : FnScope N ps (defScope st))
    (hbind : ∀ (kV doc pm : Value) (an : Option Addr) (cdv ctv : Value) (us : List Value), us.length = ps.length → bindArgs (PySem.W.fnOf x x (defArgs st) (defBody st) (defScope st) .none kV doc pm an cdv ctv) ⟨us, []⟩ = pure (ps.zip us))
    (fi : Nat → Out × Mem → Option (Except Xc Sv × Mem)) (hfi : fi = fin ∨ fi = finO)
    (hb : ∃ f : SM, (∀ (fa : Addr) (cdv : Value) (A : Around) (outer : List PySem.Env) (s : Shared) (H : Hp) (E : XK), Room k (XB P w K mg base x N st fa cdv A outer s H E).A → Takes (XB P w K mg base x N st fa cdv A outer s H E) (WB E) →
        PassesOwn (model P w) (XB P w K mg base x N st fa cdv A outer s H E).A (XB P w K mg base x N st fa cdv A outer s H E).env (XB P w K mg base x N st fa cdv A outer s H E).xe → PSs (XB P w K mg base x N st fa cdv A outer s H E) (defBody st) (tS G (WB E) f)) ∧
      ∀ args m r m', args.length = ps.length → ct args m = some (r, m') → runB fi f N.length args m = some (r, m'))
    (hK : G.K = K) : Dg P w K mg base G (k + 1) x ps.length ct := by
  obtain ⟨f, fd, F, hmg⟩ := T.ex
  exact ⟨f, fd, ps, dg_fn F S fi hfi hb hK, hmg, F.kp, F.binds hbind⟩
end

/-! ### comprehensions -/
def wipeE (env : Env) : List Nat → Env
  | [] => env
  | v :: vs => (wipeE env vs).set v none
def loopC (t : Tg) (ft : Env → M Bool) (fe : Env → M Sv) (env : Env) : List D → List D → Mem → Option (List D × Mem)
  | [], acc, m => some (acc, m)
  | d :: ds, acc, m => match setT t d env with
    | none => none
    | some env1 => match ft env1 m with
      | some (.ok true, m1) => (match fe env1 m1 with
        | some (.ok x, m2) => (match toD x m2 with
          | some (.ok y, m3) => if acc.length < sizeLine then loopC t ft fe env ds (acc ++ [y]) m3 else none
          | _ => none)
        | _ => none)
      | some (.ok false, m1) => loopC t ft fe env ds acc m1
      | _ => none
def fLc (o : Bool) (it : Env → M (List D)) (t : Tg) (ft : Env → M Bool) (fe : Env → M Sv) (vs : List Nat) : Env → M Sv := fun env => (it env).bd fun ds m => match loopC t ft fe (wipeE env vs) ds [] m with
  | some (acc, m') => mkL o acc m'
  | none => none
abbrev W0 : WX := fun _ _ _ _ => False
theorem RpE.wipe {K : PySem.W.Frag} {w : Wd} {env : Env} {σ : L2.St} (h : RpE K w env σ) : ∀ vs : List Nat, RpE K w (wipeE env vs) (L2.wipe σ vs)
  | [] => h
  | v :: vs => by
    have ih := RpE.wipe h vs
    refine ⟨?_, fun i x e => ?_⟩
    · show ((wipeE env vs).set v none).length = ((L2.wipe σ vs).set v none).length
      rw [List.length_set, List.length_set, ih.len]
    · have e' : ((wipeE env vs).set v none)[i]? = some (some x) := e
      show ∃ u, ((L2.wipe σ vs).set v none)[i]? = some (some u) ∧ _
      by_cases hv : v = i
      · subst hv
        by_cases hl : v < (wipeE env vs).length
        · rw [List.getElem?_set_self hl] at e'
          cases e'
        · rw [List.getElem?_eq_none (by rw [List.length_set]; omega)] at e'
          cases e'
      · rw [List.getElem?_set_ne hv] at e' ⊢
        exact ih.at' i x e'
theorem Away.wiped {vs : List Nat} {σ : L2.St} : Away vs σ (L2.wipe σ vs) := by
  induction vs with
  | nil => exact Away.refl
  | cons v vs ih =>
    refine ⟨?_, fun i hi => ?_⟩
    · show ((L2.wipe σ vs).set v none).length = _
      rw [List.length_set, ih.1]
    · show ((L2.wipe σ vs).set v none)[i]? = _
      rw [List.getElem?_set_ne (fun z => hi (by rw [z]; exact List.mem_cons_self))]
      exact ih.2 i fun z => hi (List.mem_cons_of_mem _ z)
section
variable {K : PySem.W.Frag} {w : Wd} {m : Mem} {H : Hp}
def Wd.grd (w : Wd) (p : Addr) (o : HO) : Wd := ⟨w.φ, w.I, upd w.F p o⟩
open Classical in
noncomputable def Wd.ung (w : Wd) (p : Addr) : Wd := ⟨w.φ, w.I, fun a => if a = p then none else w.F a⟩
theorem Hm.grd (h : Hm K w m H) {p : Addr} {o : HO} (hF : w.F p = none) (hp : H p = some o) (hl : ∀ (k : Nat) (a : Addr) (u : Mo), w.φ[k]? = some a → m[k]? = some u → isFz u = false → a ≠ p) : Hm K (w.grd p o) m H ∧ Wd.Le w (w.grd p o) :=
  ⟨⟨fun a u e => by
    show upd w.F p o a = some u
    rw [upd_ne (ne_of_none e (h.exI.back hF))]
    exact h.exI a u e, fun a u e => by
    have e' : upd w.F p o a = some u := e
    by_cases ha : a = p
    · subst ha
      rw [upd_same] at e'
      rw [hp, e']
    · rw [upd_ne ha] at e'
      exact h.exF a u e', h.len, h.obj, fun k a u ea eu hf => by
    show upd w.F p o a = none
    rw [upd_ne (hl k a u ea eu hf)]
    exact h.own k a u ea eu hf, h.inj⟩, ⟨fun _ _ e => e, Ex.refl _, Ex.new hF, fun _ _ _ n => n⟩⟩
theorem Hm.ung (h : Hm K w m H) {p : Addr} {o u : HO} (hF : w.F p = some o) (hI : w.I p = none) : Hm K (w.ung p) m (upd H p u) ∧ (∀ (k : Nat) (a : Addr) (x : Mo), w.φ[k]? = some a → m[k]? = some x → isFz x = false → a ≠ p) := by
  have hl : ∀ (k : Nat) (a : Addr) (x : Mo), w.φ[k]? = some a → m[k]? = some x → isFz x = false → a ≠ p := fun k a x ea ex hf z => by
    have := h.own k a x ea ex hf
    rw [z, hF] at this
    cases this
  refine ⟨⟨fun a x e => ?_, fun a x e => ?_, h.len, fun k a x ea ex => ?_, fun k a x ea ex hf => ?_, h.inj⟩, hl⟩
  · have e2 : w.I a = some x := e
    show (if a = p then none else w.F a) = some x
    rw [if_neg (ne_of_none e2 hI)]
    exact h.exI a x e
  · have e' : (if a = p then none else w.F a) = some x := e
    split at e'
    · cases e'
    · rename_i ha
      rw [upd_ne ha]
      exact h.exF a x e'
  · cases hf : isFz x with
    | true => exact RpM.fz (Ex.refl _) hf (h.obj k a x ea ex)
    | false => exact RpM.upd (Ex.refl _) (hl k a x ea ex hf) (h.obj k a x ea ex)
  · show (if a = p then none else w.F a) = none
    rw [if_neg (hl k a x ea ex hf)]
    exact h.own k a x ea ex hf
end
section
variable {X : Cx} {G : Gm} {W : WX}
theorem _root_.L2.PTs.imp {ifs : List Expr} {t u : TT} (h : PTs X ifs t) (i : ∀ σ H Q, u σ H Q → t σ H Q) : PTs X ifs u := ⟨fun pins s σ H Q I q => h.run pins s σ H Q I (i σ H Q q)⟩
def fTrue : Env → M Bool := fun _ => M.ok true
theorem its_nil : PTs X [] (tT G W fTrue) := pts_nil.imp fun σ H Q ⟨w, env, m, hm, he, c⟩ => c.ret hm
theorem its_one {c : Expr} {f : Env → M Bool} (h : PT X c (tT G W f)) : PTs X [c] (tT G W f) := pts_one h
/-- the reading of a comprehension -/
theorem lc_reads {it : Env → M (List D)} {wi : TI} {t : Tg} {ft : Env → M Bool} {fe : Env → M Sv} {vs : List Nat} {o : Bool} (ho : IterOk G W wi it) (hsl : ∀ i ∈ slotsT t, i ∈ vs) {σ : L2.St} {H : Hp} {Q : VK}
    (q : tI G W (fLc o it t ft fe vs) σ H Q) : tLc wi (gT G.K t) (tT G W0 ft) (tI G W0 fe) vs σ H Q := by
  obtain ⟨w, env, m, hm, he, r, m', e, p⟩ := q
  unfold fLc M.bd at e
  cases h1 : it env m with
  | none =>
    rw [h1] at e
    cases e
  | some q1 =>
    obtain ⟨r1, m1⟩ := q1
    rw [h1] at e
    refine ho σ H _ w env m r1 m1 hm he h1 fun w1 H1 l1 hm1 => ?_
    cases r1 with
    | error x =>
      cases e
      exact fun cls d hx => p w1 H1 l1 hm1 cls d hx
    | ok items =>
      intro J wk D0 hD
      dsimp only at e
      cases hlp : loopC t ft fe (wipeE env vs) items [] m1 with
      | none =>
        rw [hlp] at e
        cases e
      | some q2 =>
        obtain ⟨accF, mF⟩ := q2
        rw [hlp] at e
        have hFD : w1.F D0 = none := hm1.exF.back hD
        have hm1' : Hm G.K w1 m1 (upd H1 D0 (.lst [])) := ⟨hm1.exI, hm1.exF.trans (Ex.new hD), hm1.len, fun k a u ea eu => by
          cases hf : isFz u with
          | true => exact RpM.fz (Ex.refl _) hf (hm1.obj k a u ea eu)
          | false => exact RpM.upd (Ex.refl _) (hm1.notφ hD k a u ea eu hf) (hm1.obj k a u ea eu), hm1.own, hm1.inj⟩
        refine ⟨fun i k H' => k = items.length - i ∧ i ≤ items.length ∧ ∃ w' m2 accD accV, Wd.Le w1 w' ∧ Hm G.K w' m2 H' ∧ H' D0 = some (.lst accV) ∧ RpA G.K w'.I accV accD ∧ w'.F D0 = none ∧ (∀ (k : Nat) (a : Addr) (u : Mo), w'.φ[k]? = some a → m2[k]? = some u → isFz u = false → a ≠ D0) ∧
          loopC t ft fe (wipeE env vs) (items.drop i) accD m2 = some (accF, mF), ⟨items.length, by simp, Nat.zero_le _, w1, m1, [], [], Wd.Le.refl w1, hm1', upd_same, .nil, hFD, fun k a u ea eu hf => hm1.notφ hD k a u ea eu hf, by rw [List.drop_zero]; exact hlp⟩, ?_⟩
        rintro i k H' ⟨rfl, hi, w', m2, accD, accV, l2, hm2, hH, hR, hF, hlv, e2⟩
        have hx : Ex w1.I H' := l2.I.trans (hm2.exI.trans hm2.exF)
        have hID : w'.I D0 = none := hm2.exI.back hF
        by_cases hlt : i < items.length
        · refine .inr ⟨wk.goes i H' hlt hx, fun H3 => ∃ w3 m3 accD3 accV3, Wd.Le w1 w3 ∧ Hm G.K w3 m3 H3 ∧ H3 D0 = some (.lst accV3) ∧ RpA G.K w3.I accV3 accD3 ∧ w3.F D0 = none ∧ (∀ (k : Nat) (a : Addr) (u : Mo), w3.φ[k]? = some a → m3[k]? = some u → isFz u = false → a ≠ D0) ∧
            loopC t ft fe (wipeE env vs) (items.drop (i + 1)) accD3 m3 = some (accF, mF), fun H3 z => ⟨_, by omega, rfl, hlt, z⟩, fun x H2 y => ?_⟩
          obtain ⟨d, hd, alt⟩ := wk.yields i H' x H2 hlt hx y
          rw [List.drop_eq_getElem_cons hlt] at e2
          have ed : items[i] = d := by
            rw [List.getElem?_eq_getElem hlt] at hd
            exact Option.some.inj hd
          rw [ed] at e2
          unfold loopC at e2
          cases hset : setT t d (wipeE env vs) with
          | none =>
            rw [hset] at e2
            cases e2
          | some env1 =>
            rw [hset] at e2
            have wd : ∃ w2, Wd.Le w' w2 ∧ Hm G.K w2 m2 H2 ∧ Rp G.K w2.I x d ∧ H2 D0 = some (.lst accV) ∧ w2.F D0 = none ∧ w2.φ = w'.φ := by
              rcases alt with ⟨rfl, hr⟩ | ⟨pp, us, ds, rfl, hn, rfl, rfl, hr⟩
              · exact ⟨w', Wd.Le.refl w', hm2, hr.mono l2.I, hH, hF, rfl⟩
              · have l := Wd.imm_le hm2 (.tup us) hn
                have ne : D0 ≠ pp := ne_of_none hH hn
                refine ⟨_, l, hm2.imm (.tup us) hn, Rp.tup (.inl (.inl upd_same)) (hr.mono (l2.I.trans l.I)), by rw [upd_ne ne]; exact hH, ?_, rfl⟩
                show upd w'.F pp _ D0 = none
                rw [upd_ne ne]
                exact hF
            obtain ⟨w2, l3, hm3, hrx, hH2, hF2, hφ⟩ := wd
            obtain ⟨hmg, lg⟩ := hm3.grd hF2 hH2 (fun k a u ea eu hf => hlv k a u (by rw [← hφ]; exact ea) eu hf)
            have hIg : (w2.grd D0 (.lst accV)).I D0 = none := hm3.exI.back hF2
            have hFg : (w2.grd D0 (.lst accV)).F D0 = some (.lst accV) := upd_same
            have l1g : Wd.Le w1 (w2.grd D0 (.lst accV)) := (l2.trans l3).trans lg
            have he2 : RpE G.K (w2.grd D0 (.lst accV)) (wipeE env vs) (L2.wipe σ vs) := RpE.mono (l1.trans l1g) (he.wipe vs)
            refine setT_ok hmg t (hrx.mono lg.I) he2 hset fun σ3 aw he3 => ⟨?_, ?_⟩
            · exact (Away.wiped.trans (aw.mono hsl)).wipe
            · cases hte : ft env1 m2 with
              | none =>
                simp only [hte] at e2
                cases e2
              | some q3 =>
                obtain ⟨rb, m3⟩ := q3
                refine ⟨_, env1, m2, hmg, he3, rb, m3, hte, fun w4 H4 l4 hm4 => ?_⟩
                simp only [hte] at e2
                have hF4 : w4.F D0 = some (.lst accV) := l4.F _ _ hFg
                have hI4 : w4.I D0 = none := l4.no _ _ hFg hIg
                cases rb with
                | error x => cases e2
                | ok b =>
                  cases b with
                  | false =>
                    show ∃ w3, _
                    obtain ⟨hmu, hlu⟩ := hm4.ung (u := .lst accV) hF4 hI4
                    have eH : upd H4 D0 (.lst accV) = H4 := by
                      funext b
                      by_cases hb : b = D0
                      · rw [hb, upd_same, hm4.exF _ _ hF4]
                      · rw [upd_ne hb]
                    rw [eH] at hmu
                    refine ⟨w4.ung D0, m3, accD, accV, ⟨(l1g.trans l4).φ, (l1g.trans l4).I, fun a u ha => ?_, (l1g.trans l4).no⟩, hmu, hm4.exF _ _ hF4, hR.mono ((l3.trans lg).trans l4).I, if_pos rfl, hlu, e2⟩
                    show (if a = D0 then none else w4.F a) = some u
                    rw [if_neg (ne_of_none ha hFD)]
                    exact (l1g.trans l4).F a u ha
                  | true =>
                    show tI G W0 fe σ3 H4 _
                    cases hel : fe env1 m3 with
                    | none =>
                      simp only [hel] at e2
                      cases e2
                    | some q4 =>
                      obtain ⟨rx, m4⟩ := q4
                      refine ⟨w4, env1, m3, hm4, he3.mono l4, rx, m4, hel, fun w5 H5 l5 hm5 => ?_⟩
                      simp only [hel] at e2
                      cases rx with
                      | error x => cases e2
                      | ok y =>
                        intro v hv
                        rcases vD hm5 hv with ⟨dd, m5, w6, e6, l6, h6, r6⟩ | n
                        · simp only [e6] at e2
                          split at e2
                          · rename_i hsz
                            have l46 := l5.trans l6
                            have hF6 : w6.F D0 = some (.lst accV) := l46.F _ _ hF4
                            have hI6 : w6.I D0 = none := l46.no _ _ hF4 hI4
                            obtain ⟨hmu, hlu⟩ := h6.ung (u := .lst (accV ++ [v])) hF6 hI6
                            have l16 := (l1g.trans l4).trans l46
                            have hR6 : RpA G.K w6.I accV accD := hR.mono (((l3.trans lg).trans l4).trans l46).I
                            refine ⟨accV, h6.exF _ _ hF6, by rw [hR.length]; exact hsz, w6.ung D0, m5, accD ++ [dd], accV ++ [v], ⟨l16.φ, l16.I, fun a u ha => ?_, l16.no⟩, hmu, upd_same, hR6.append (.cons r6 .nil), if_pos rfl, hlu, e2⟩
                            show (if a = D0 then none else w6.F a) = some u
                            rw [if_neg (ne_of_none ha hFD)]
                            exact l16.F a u ha
                          · cases e2
                        · simp only [n] at e2
                          cases e2
        · have ei : i = items.length := by omega
          subst ei
          rw [List.drop_length] at e2
          cases e2
          refine .inl ⟨wk.stops H' hx, ?_⟩
          -- the list stands at D0
          have hm0 : Hm G.K w' mF (fun a => if a = D0 then none else H' a) := ⟨hm2.exI, fun a u e => by
            show (if a = D0 then none else H' a) = some u
            rw [if_neg (ne_of_none e hF)]
            exact hm2.exF a u e, hm2.len, fun k a u ea eu => by
            cases hf : isFz u with
            | true => exact RpM.fz (Ex.refl _) hf (hm2.obj k a u ea eu)
            | false => exact RpM.tr (Ex.refl _) (fun x hx => by
                show (if a = D0 then none else H' a) = some x
                rw [if_neg (hlv k a u ea eu hf)]
                exact hx) (hm2.obj k a u ea eu), hm2.own, hm2.inj⟩
          have eH : upd (fun a => if a = D0 then none else H' a) D0 (.lst accV) = H' := by
            funext b
            by_cases hb : b = D0
            · rw [hb, upd_same, hH]
            · rw [upd_ne hb, if_neg hb]
          have c : CoE G W σ Q w' (mkL o accF) mF := ⟨r, m', e, p.at' (l1.trans l2)⟩
          have := new_list hm0 hR c (p := D0) (if_pos rfl)
          rw [eH] at this
          exact this
variable {elt tg iter : Expr} {ifs : List Expr} {scope : Scope} {own : List (Str × Nat)} {pos : Pos} {wi : TI} {it : Env → M (List D)} {t : Tg} {ft : Env → M Bool} {fe : Env → M Sv}
theorem ie_lc (o : Bool) (hc : X.calm = true) (hN : X.N.Nodup) (ho : IterOk G W wi it) (hi : PI X tg iter wi) (ok : BlkOk X.N X.env.scope scope own) (hsl : ∀ i ∈ slotsT t, i ∈ own.map (·.2))
    (hg : ∀ (s : Shared) (H : Hp) (C : Addr) (cl : List (Str × Addr)) (fp : List Addr), PG (X.blk s H scope (compEnvC scope cl C X.env) fp) tg (gT G.K t)) (ht : ∀ (s : Shared) (H : Hp) (C : Addr) (cl : List (Str × Addr)) (fp : List Addr), PTs (X.blk s H scope (compEnvC scope cl C X.env) fp) ifs (tT G W0 ft))
    (he : ∀ (s : Shared) (H : Hp) (C : Addr) (cl : List (Str × Addr)) (fp : List Addr), PE (X.blk s H scope (compEnvC scope cl C X.env) fp) elt (tI G W0 fe)) (hs : ∀ x, foldedSetIterable iter X.env x = pure x := by intro _; rfl) :
    PE X (.ListComp elt [⟨tg, iter, ifs, 0⟩] scope pos) (tI G W (fLc o it t ft fe (own.map (·.2)))) :=
  (pe_lc hc hN hi ok hg ht he hs).imp fun σ H Q q => lc_reads ho hsl q
/-- x = [..] on one line -/
theorem is_setLc (o : Bool) {i : Nat} {y : Str} {py spos : Pos} (hc : X.calm = true) (hN : X.N.Nodup) (hy : X.N[i]? = some y) (hyl : X.env.scope.names.lookup y = some .local)
    (hsw : swapsWith (.ListComp elt [⟨tg, iter, ifs, 0⟩] scope pos) (some (.Name y py)) spos.line X.env = pure true) (ho : IterOk G W wi it) (hi : PI X tg iter wi) (ok : BlkOk X.N X.env.scope scope own) (hsl : ∀ i ∈ slotsT t, i ∈ own.map (·.2))
    (hg : ∀ (s : Shared) (H : Hp) (C : Addr) (cl : List (Str × Addr)) (fp : List Addr), PG (X.blk s H scope (compEnvC scope cl C X.env) fp) tg (gT G.K t)) (ht : ∀ (s : Shared) (H : Hp) (C : Addr) (cl : List (Str × Addr)) (fp : List Addr), PTs (X.blk s H scope (compEnvC scope cl C X.env) fp) ifs (tT G W0 ft))
    (he : ∀ (s : Shared) (H : Hp) (C : Addr) (cl : List (Str × Addr)) (fp : List Addr), PE (X.blk s H scope (compEnvC scope cl C X.env) fp) elt (tI G W0 fe)) (hs : ∀ x, foldedSetIterable iter X.env x = pure x := by intro _; rfl) :
    PS X (.Assign [.Name y py] (.ListComp elt [⟨tg, iter, ifs, 0⟩] scope pos) spos) (tS G W (sE (fLc o it t ft fe (own.map (·.2))) (sSet i))) :=
  (ps_setLc (i := i) hc hN hy hyl hsw hi ok hg ht he hs).imp fun D σ H ⟨w, env, m, hm, he, c⟩ => lc_reads ho hsl ⟨w, env, m, hm, he, bdES he c fun w1 m1 H1 x v l1 hm1 hx c1 => c1.set hm1 (he.mono l1) hx⟩
theorem Df.blk {x : Str} {n : Nat} {ct : Ct} {s : Shared} {H : Hp} {sc : Scope} {ce : PySem.Env} {fp : List Addr} (h : Df X G x n ct) : Df (X.blk s H sc ce fp) G x n ct := ⟨h.ok⟩
end
end MR

namespace MR
open PySem PySem.Spec PyProof.Rows L2
/-! ### what is walked -/
section
variable {X : Cx} {G : Gm} {W : WX} {a b c e : Expr} {es : List Expr} {fa fb fc : Env → M Sv} {fs : Env → M (List Sv)} {pos p : Pos} {tg : Expr}
theorem _root_.L2.PI.or {iter : Expr} {u v : TI} (h : PI X tg iter u) (g : PI X tg iter v) : PI X tg iter (fun σ H R => u σ H R ∨ v σ H R) := ⟨fun pins s σ H R I q => q.elim (h.run pins s σ H R I) (g.run pins s σ H R I)⟩
/-- the items of data -/
def itemsD : D → M (List D)
  | .lst ds => M.ok ds
  | .lsf ds => M.ok ds
  | .tup ds => M.ok ds
  | _ => M.no
def itSeq (f : Env → M Sv) : Env → M (List D) := fun env => (f env).bd fun x => (toD x).bd itemsD
def wiSeq (K : PySem.W.Frag) (te : TE) : TI := fun σ H R => iList K te σ H R ∨ iTup K te σ H R
theorem pi_seq (hK : G.K = X.K) (h : PE X e (tI G W fa)) : PI X tg e (wiSeq G.K (tI G W fa)) := by
  rw [hK]
  rw [← hK]
  have h1 : PI X tg e (iList X.K (tI G W fa)) := pi_list h
  have h2 : PI X tg e (iTup X.K (tI G W fa)) := pi_tup h
  rw [← hK] at h1 h2
  exact h1.or h2
theorem walkD_list {K : PySem.W.Frag} {a : Addr} {vs : List V} {ds : List D} {I : Hp} (h : SqL K I a vs) (r : RpA K I vs ds) : WalkD K (Itl K a) ds I where
  goes := fun i H hi e => ⟨vs, vs[i]'(by rw [r.length]; exact hi), e.sl h, List.getElem?_eq_getElem _⟩
  stops := fun H e => ⟨vs, e.sl h, by rw [r.length]; exact Nat.le_refl _⟩
  yields := fun i H x H' hi e y => by
    obtain ⟨rfl, y⟩ := y
    obtain ⟨d, hd, hr⟩ := r.get' (y vs (e.sl h))
    exact ⟨d, hd, .inl ⟨rfl, hr⟩⟩
theorem walkD_tup {K : PySem.W.Frag} {a : Addr} {vs : List V} {ds : List D} {I : Hp} (h : SqT K I a vs) (r : RpA K I vs ds) : WalkD K (Itt K a) ds I where
  goes := fun i H hi e => ⟨vs, vs[i]'(by rw [r.length]; exact hi), e.st h, List.getElem?_eq_getElem _⟩
  stops := fun H e => ⟨vs, e.st h, by rw [r.length]; exact Nat.le_refl _⟩
  yields := fun i H x H' hi e y => by
    obtain ⟨rfl, y⟩ := y
    obtain ⟨d, hd, hr⟩ := r.get' (y vs (e.st h))
    exact ⟨d, hd, .inl ⟨rfl, hr⟩⟩
theorem toD_err {x : Sv} {m m' : Mem} {y : Xc} : toD x m ≠ some (.error y, m') := by
  intro h
  cases x with
  | d x => cases h
  | r k =>
    unfold toD at h
    dsimp only at h
    cases q : m[k]? with
    | none =>
      rw [q] at h
      cases h
    | some u =>
      rw [q] at h
      cases u <;> cases h
theorem io_seq : IterOk G W (wiSeq G.K (tI G W fa)) (itSeq fa) := by
  intro σ H R w env m r m' hm he e q
  unfold itSeq at e
  cases h1 : fa env m with
  | none =>
    rw [bd_none h1] at e
    cases e
  | some q1 =>
    obtain ⟨r1, m1⟩ := q1
    cases r1 with
    | error x =>
      have e' : (some (.error x, m1) : Option (Except Xc (List D) × Mem)) = some (r, m') := by
        rw [← e]
        unfold M.bd
        rw [h1]
      cases e'
      exact .inl ⟨w, env, m, hm, he, .error x, _, h1, fun w' H' l hm' cls d hx => q w' H' l hm' cls d hx⟩
    | ok x =>
      rw [bd_of h1] at e
      cases h2 : toD x m1 with
      | none =>
        rw [bd_none h2] at e
        cases e
      | some q2 =>
        obtain ⟨r2, m2⟩ := q2
        cases r2 with
        | error y =>
          exact absurd h2 toD_err
        | ok d =>
          rw [bd_of h2] at e
          have key : ∀ (w' : Wd) (H' : Hp) (v : V), Wd.Le w w' → Hm G.K w' m1 H' → RpS G.K w' x v → ∃ w2, Wd.Le w w2 ∧ Hm G.K w2 m2 H' ∧ Rp G.K w2.I v d := fun w' H' v l hm' hv => by
            rcases vD hm' hv with ⟨d', m3, w2, e3, l3, h3, r3⟩ | n
            · have e4 : some (Except.ok d, m2) = some (Except.ok d', m3) := h2.symm.trans e3
              cases e4
              exact ⟨w2, l.trans l3, h3, r3⟩
            · rw [h2] at n
              cases n
          cases d with
          | lst ds =>
            cases e
            refine .inl ⟨w, env, m, hm, he, .ok x, m1, h1, fun w' H' l hm' v hv => ?_⟩
            obtain ⟨w2, l2, h3, r3⟩ := key w' H' v l hm' hv
            cases r3 with
            | lst h4 h5 => exact ⟨_, rfl, ⟨_, .inl (.inl ((h3.exI.trans h3.exF) _ _ h4))⟩, q w2 H' l2 h3 _ (walkD_list (.inl (.inl h4)) h5)⟩
          | lsf ds =>
            cases e
            refine .inl ⟨w, env, m, hm, he, .ok x, m1, h1, fun w' H' l hm' v hv => ?_⟩
            obtain ⟨w2, l2, h3, r3⟩ := key w' H' v l hm' hv
            cases r3 with
            | lsf h4 h5 => exact ⟨_, rfl, ⟨_, (h3.exI.trans h3.exF).sl h4⟩, q w2 H' l2 h3 _ (walkD_list h4 h5)⟩
          | tup ds =>
            cases e
            refine .inr ⟨w, env, m, hm, he, .ok x, m1, h1, fun w' H' l hm' v hv => ?_⟩
            obtain ⟨w2, l2, h3, r3⟩ := key w' H' v l hm' hv
            cases r3 with
            | tup h4 h5 => exact ⟨_, rfl, ⟨_, (h3.exI.trans h3.exF).st h4⟩, q w2 H' l2 h3 _ (walkD_tup h4 h5)⟩
          | _ => cases e
/-- range(n), range(a, b) -/
def rgD (i j : Int) : List D := (List.range (j - i).toNat).map fun k => .int (i + (k : Nat))
def rg1 : List Sv → M (List D)
  | [.d (.int j)] => M.if (-(2 ^ 62) ≤ j ∧ j < 2 ^ 62) (M.ok (rgD 0 j))
  | _ => M.no
def rg2 : List Sv → M (List D)
  | [.d (.int i), .d (.int j)] => M.if (-(2 ^ 62) ≤ i ∧ i < 2 ^ 62 ∧ -(2 ^ 62) ≤ j ∧ j < 2 ^ 62) (M.ok (rgD i j))
  | _ => M.no
def itRng1 (fs : Env → M (List Sv)) : Env → M (List D) := fun env => (fs env).bd rg1
def itRng2 (fs : Env → M (List Sv)) : Env → M (List D) := fun env => (fs env).bd rg2
theorem walkD_rng {K : PySem.W.Frag} {i j : Int} {I : Hp} : WalkD K (Itr i (j - i).toNat) (rgD i j) I where
  goes := fun k H hk _ => by
    unfold rgD at hk
    rw [List.length_map, List.length_range] at hk
    exact hk
  stops := fun H _ => by
    show (j - i).toNat ≤ _
    unfold rgD
    rw [List.length_map, List.length_range]
    exact Nat.le_refl _
  yields := fun k H x H' hk _ y => by
    obtain ⟨rfl, rfl⟩ := y
    unfold rgD at hk ⊢
    rw [List.length_map, List.length_range] at hk
    refine ⟨.int (i + (k : Nat)), ?_, .inl ⟨rfl, .int _⟩⟩
    rw [List.getElem?_map, List.getElem?_range hk]
    rfl
theorem io_rng1 : IterOk G W (iRng1 (tA G W fs)) (itRng1 fs) := by
  intro σ H R w env m r m' hm he e q
  unfold itRng1 at e
  cases h1 : fs env m with
  | none =>
    rw [bd_none h1] at e
    cases e
  | some q1 =>
    obtain ⟨r1, m1⟩ := q1
    cases r1 with
    | error x =>
      have e' : (some (.error x, m1) : Option (Except Xc (List D) × Mem)) = some (r, m') := by
        rw [← e]
        unfold M.bd
        rw [h1]
      cases e'
      exact ⟨w, env, m, hm, he, .error x, _, h1, fun w' H' l hm' cls d hx => q w' H' l hm' cls d hx⟩
    | ok xs =>
      rw [bd_of h1] at e
      refine ⟨w, env, m, hm, he, .ok xs, m1, h1, fun w' H' l hm' vs hv => ?_⟩
      unfold rg1 at e
      split at e
      · rename_i j
        obtain ⟨hb, e⟩ := ifc e
        cases e
        cases hv with
        | cons a b =>
          cases b
          cases a
          refine ⟨j, rfl, hb.1, hb.2, ?_⟩
          have := q w' H' l hm' _ (walkD_rng (K := G.K) (i := 0) (j := j) (I := w'.I))
          rw [Int.sub_zero] at this
          exact this
      · cases e
theorem io_rng2 : IterOk G W (iRng2 (tA G W fs)) (itRng2 fs) := by
  intro σ H R w env m r m' hm he e q
  unfold itRng2 at e
  cases h1 : fs env m with
  | none =>
    rw [bd_none h1] at e
    cases e
  | some q1 =>
    obtain ⟨r1, m1⟩ := q1
    cases r1 with
    | error x =>
      have e' : (some (.error x, m1) : Option (Except Xc (List D) × Mem)) = some (r, m') := by
        rw [← e]
        unfold M.bd
        rw [h1]
      cases e'
      exact ⟨w, env, m, hm, he, .error x, _, h1, fun w' H' l hm' cls d hx => q w' H' l hm' cls d hx⟩
    | ok xs =>
      rw [bd_of h1] at e
      refine ⟨w, env, m, hm, he, .ok xs, m1, h1, fun w' H' l hm' vs hv => ?_⟩
      unfold rg2 at e
      split at e
      · rename_i i j
        obtain ⟨hb, e⟩ := ifc e
        cases e
        cases hv with
        | cons a b =>
          cases b with
          | cons b c =>
            cases c
            cases a
            cases b
            exact ⟨i, j, rfl, hb, q w' H' l hm' _ walkD_rng⟩
      · cases e

/-! ### built-in calls, by their values -/
theorem ie_cb {x : Str} {r : List V → Hp → VK → Prop} {g : List Sv → M Sv} {id : String} (hg : SndL G r g) (hc : CallR X (.builtin id) r) (gl : Gl X x) (hm : X.mg x = none) (hv : bootBuiltins x = some (.builtin id)) (ha : PA X (e :: es) (tA G W fs)) (hn : x ≠ "__name__" := by decide) (hdb : (x == ("__debug__" : Str)) = false := by decide)
    (he : starEach (e :: es) X.env = (false, eval e X.env) :: starEach es X.env := by rfl) (hpl : (backTo pos (starEach es X.env)).any (·.1) = false := by rfl) : PE X (.Call (.Name x p) (e :: es) [] pos) (tI G W (fL g fs)) :=
  (pe_callB hc gl hm hv ha hn hdb he hpl).imp fun σ H Q ⟨w, env, m, hm, he, c⟩ => ⟨w, env, m, hm, he, bdAE c fun w1 m1 H1 xs vs l1 hm1 hx c1 => hg W σ w1 m1 H1 xs vs Q hm1 hx c1⟩
theorem ie_ct {x : Str} {r : List V → Hp → VK → Prop} {g : List Sv → M Sv} {T : String} (hg : SndL G r g) (hc : CallR X (.type T) r) (gl : Gl X x) (hm : X.mg x = none) (hv : bootBuiltins x = some (.type T)) (ha : PA X (e :: es) (tA G W fs)) (hn : x ≠ "__name__" := by decide) (hdb : (x == ("__debug__" : Str)) = false := by decide)
    (he : starEach (e :: es) X.env = (false, eval e X.env) :: starEach es X.env := by rfl) (hpl : (backTo pos (starEach es X.env)).any (·.1) = false := by rfl) : PE X (.Call (.Name x p) (e :: es) [] pos) (tI G W (fL g fs)) :=
  (pe_callTy hc gl hm hv ha hn hdb he hpl).imp fun σ H Q ⟨w, env, m, hm, he, c⟩ => ⟨w, env, m, hm, he, bdAE c fun w1 m1 H1 xs vs l1 hm1 hx c1 => hg W σ w1 m1 H1 xs vs Q hm1 hx c1⟩
/-- a method's call on a value -/
theorem vlen1 {w : Wd} {x : Sv} {vs : List V} (h : RpL G.K w [x] vs) : ∃ v, vs = [v] ∧ RpS G.K w x v := by
  cases h with
  | cons a b =>
    cases b
    exact ⟨_, rfl, a⟩
theorem vlen2 {w : Wd} {x y : Sv} {vs : List V} (h : RpL G.K w [x, y] vs) : ∃ v u, vs = [v, u] ∧ RpS G.K w x v ∧ RpS G.K w y u := by
  cases h with
  | cons a b =>
    obtain ⟨u, rfl, hb⟩ := vlen1 b
    exact ⟨_, u, rfl, a, hb⟩
/-- len -/
def gLen1 : List Sv → M Sv
  | [.d (.str z)] => M.if (z.length ≤ sizeLine) (M.ok (.d (.int z.length)))
  | [.d (.tup ds)] => M.ok (.d (.int ds.length))
  | [x] => (asL x).bd fun ds => M.ok (.d (.int ds.length))
  | _ => M.no
def rLen (K : PySem.W.Frag) : List V → Hp → VK → Prop := fun xs H Q => (∃ p ys, xs = [.ref p] ∧ (SqL K H p ys ∨ SqT K H p ys) ∧ Q (.int ys.length) H) ∨ ∃ z, xs = [.str z] ∧ z.length ≤ sizeLine ∧ Q (.int z.length) H
theorem snd_len : SndL G (rLen G.K) gLen1 := by
  intro W σ w m H xs vs Q hm hx c
  have list : ∀ x, xs = [x] → CoE G W σ Q w ((asL x).bd fun ds => M.ok (.d (.int ds.length))) m → rLen G.K vs H Q := fun x ex c9 => by
    subst ex
    obtain ⟨v, rfl, hv⟩ := vlen1 hx
    rcases vL hm hv with ⟨a, us, ds, e1, rfl, h2, r⟩ | n
    · have c2 : CoE G W σ Q w (M.ok (.d (.int ds.length))) m := c9.eqm (bd_of e1)
      refine .inl ⟨a, us, rfl, .inl h2, ?_⟩
      rw [r.length]
      exact c2.ret hm (Rp.int _)
    · exact (c9.none' (n _ _)).elim
  unfold gLen1 at c
  split at c
  · rename_i z
    obtain ⟨v, rfl, hv⟩ := vlen1 hx
    cases hv
    obtain ⟨hz, c2⟩ := c.ifc
    exact .inr ⟨z, rfl, hz, c2.ret hm (Rp.int _)⟩
  · rename_i ds
    obtain ⟨v, rfl, hv⟩ := vlen1 hx
    cases hv with
    | tup h1 h2 =>
      refine .inl ⟨_, _, rfl, .inr ((hm.exI.trans hm.exF).st h1), ?_⟩
      rw [h2.length]
      exact CoE.ret (x := .d (.int ds.length)) c hm (Rp.int _)
  · rename_i x _ _
    exact list x rfl c
  · exact c.no.elim
theorem call_lenA (hK : G.K = X.K) : CallR X (.builtin "len") (rLen G.K) := by
  rw [hK]
  exact call_len_seq.or call_len_str
theorem ie_len (hK : G.K = X.K) (gl : Gl X "len") (hm : X.mg "len" = none) (ha : PA X (e :: es) (tA G W fs))
    (he : starEach (e :: es) X.env = (false, eval e X.env) :: starEach es X.env := by rfl) (hpl : (backTo pos (starEach es X.env)).any (·.1) = false := by rfl) : PE X (.Call (.Name "len" p) (e :: es) [] pos) (tI G W (fL gLen1 fs)) :=
  ie_cb snd_len (call_lenA hK) gl hm PySem.boot_len ha (by decide) (by decide) he hpl
/-- int of an int, a bool -/
def gInt1 : List Sv → M Sv
  | [.d (.int i)] => M.ok (.d (.int i))
  | [.d (.bl k)] => M.ok (.d (.int (if k = true then 1 else 0)))
  | _ => M.no
theorem snd_int : SndL G (fun xs H Q => (∃ i, xs = [.int i] ∧ Q (.int i) H) ∨ ∃ k, xs = [.bl k] ∧ Q (.int (if k then 1 else 0)) H) gInt1 := by
  intro W σ w m H xs vs Q hm hx c
  unfold gInt1 at c
  split at c
  · obtain ⟨v, rfl, hv⟩ := vlen1 hx
    cases hv
    exact .inl ⟨_, rfl, c.ret hm (Rp.int _)⟩
  · obtain ⟨v, rfl, hv⟩ := vlen1 hx
    cases hv
    exact .inr ⟨_, rfl, c.ret hm (Rp.int _)⟩
  · exact c.no.elim
theorem ie_int1 (gl : Gl X "int") (hm : X.mg "int" = none) (ha : PA X (e :: es) (tA G W fs))
    (he : starEach (e :: es) X.env = (false, eval e X.env) :: starEach es X.env := by rfl) (hpl : (backTo pos (starEach es X.env)).any (·.1) = false := by rfl) : PE X (.Call (.Name "int" p) (e :: es) [] pos) (tI G W (fL gInt1 fs)) :=
  ie_ct snd_int call_int1 gl hm (by decide +kernel) ha (by decide) (by decide) he hpl
/-- list(xs), a new list -/
def gList (o : Bool) : List Sv → M Sv
  | [.d (.tup ds)] => mkL o ds
  | [x] => (asL x).bd fun ds => mkL o ds
  | _ => M.no
theorem snd_list {o : Bool} : SndL G (fun xs H Q => ∃ p ys, xs = [.ref p] ∧ (SqL G.K H p ys ∨ SqT G.K H p ys) ∧ ∀ l, H l = none → Q (.ref l) (upd H l (.lst ys))) (gList o) := by
  intro W σ w m H xs vs Q hm hx c
  unfold gList at c
  split at c
  · obtain ⟨v, rfl, hv⟩ := vlen1 hx
    cases hv with
    | tup h1 h2 => exact ⟨_, _, rfl, .inr ((hm.exI.trans hm.exF).st h1), fun l hl => new_list hm h2 c hl⟩
  · obtain ⟨v, rfl, hv⟩ := vlen1 hx
    rcases vL hm hv with ⟨a, us, ds, e1, rfl, h2, r⟩ | n
    · exact ⟨a, us, rfl, .inl h2, fun l hl => new_list hm r (c.eqm (bd_of e1)) hl⟩
    · exact (c.none' (n _ _)).elim
  · exact c.no.elim
theorem ie_list (o : Bool) (hK : G.K = X.K) (gl : Gl X "list") (hm : X.mg "list" = none) (ha : PA X (e :: es) (tA G W fs))
    (he : starEach (e :: es) X.env = (false, eval e X.env) :: starEach es X.env := by rfl) (hpl : (backTo pos (starEach es X.env)).any (·.1) = false := by rfl) : PE X (.Call (.Name "list" p) (e :: es) [] pos) (tI G W (fL (gList o) fs)) :=
  ie_ct snd_list (by rw [hK]; exact call_list_of) gl hm (by decide +kernel) ha (by decide) (by decide) he hpl
/-- tuple(xs) -/
def gTuple : List Sv → M Sv
  | [.d (.tup ds)] => M.ok (.d (.tup ds))
  | [x] => (asL x).bd fun ds => M.ok (.d (.tup ds))
  | _ => M.no
theorem snd_tuple : SndL G (fun xs H Q => ∃ p ys, xs = [.ref p] ∧ ((SqL G.K H p ys ∧ ∀ l, H l = none → Q (.ref l) (upd H l (.tup ys))) ∨ (SqT G.K H p ys ∧ Q (.ref p) H))) gTuple := by
  intro W σ w m H xs vs Q hm hx c
  unfold gTuple at c
  split at c
  · obtain ⟨v, rfl, hv⟩ := vlen1 hx
    have hv' := hv
    cases hv with
    | tup h1 h2 => exact ⟨_, _, rfl, .inr ⟨(hm.exI.trans hm.exF).st h1, c.ret hm hv'⟩⟩
  · obtain ⟨v, rfl, hv⟩ := vlen1 hx
    rcases vL hm hv with ⟨a, us, ds, e1, rfl, h2, r⟩ | n
    · exact ⟨a, us, rfl, .inl ⟨h2, fun l hl => new_tup hm r (c.eqm (bd_of e1)) hl⟩⟩
    · exact (c.none' (n _ _)).elim
  · exact c.no.elim
theorem ie_tuple (hK : G.K = X.K) (gl : Gl X "tuple") (hm : X.mg "tuple" = none) (ha : PA X (e :: es) (tA G W fs))
    (he : starEach (e :: es) X.env = (false, eval e X.env) :: starEach es X.env := by rfl) (hpl : (backTo pos (starEach es X.env)).any (·.1) = false := by rfl) : PE X (.Call (.Name "tuple" p) (e :: es) [] pos) (tI G W (fL gTuple fs)) :=
  ie_ct snd_tuple (by rw [hK]; exact call_tuple_of) gl hm (by decide +kernel) ha (by decide) (by decide) he hpl
/-- list(range(..)) -/
def itRg1 (f : Env → M Sv) : Env → M (Int × Int) := fun env => (f env).bd fun x => (asI x).bd fun n => M.ok (0, n)
def fLRg1 (o : Bool) (f : Env → M Sv) : Env → M Sv := fun env => (f env).bd fun x => (asI x).bd fun n => M.if (-(2 ^ 62) ≤ n ∧ n ≤ 16777216) (mkL o (rgD 0 n))
theorem rg_rp {K : PySem.W.Frag} {I : Hp} (i j : Int) : RpA K I (rgV i j) (rgD i j) := by
  unfold rgV rgD
  induction List.range (j - i).toNat with
  | nil => exact .nil
  | cons k ks ih => exact .cons (.int _) ih
theorem ie_listRg1 (o : Bool) {p2 pos2 : Pos} (hc : X.calm = true) (gl : Gl X "list") (hm : X.mg "list" = none) (gl2 : Gl X "range") (hm2 : X.mg "range" = none) (ha : PE X a (tI G W fa))
    (na : starEach [a] X.env = (false, eval a X.env) :: starEach [] X.env := by rfl) (na2 : starEach [Expr.Call (.Name "range" p2) [a] [] pos2] X.env = (false, eval (.Call (.Name "range" p2) [a] [] pos2) X.env) :: starEach [] X.env := by rfl) :
    PE X (.Call (.Name "list" p) [.Call (.Name "range" p2) [a] [] pos2] [] pos) (tI G W (fLRg1 o fa)) :=
  (pe_listRg hc gl hm (prg_1 gl2 hm2 ha na) na2).imp fun σ H Q ⟨w, env, m, hm, he, c⟩ => ⟨w, env, m, hm, he, bdEE c fun w1 m1 H1 x v l1 hm1 hx c1 => by
    rcases vI hx with ⟨n, rfl, rfl⟩ | n
    · obtain ⟨hb, c2⟩ := CoE.ifc (a := mkL o (rgD 0 n)) (c := -(2 ^ 62) ≤ n ∧ n ≤ 16777216) c1
      refine ⟨n, rfl, ⟨by decide, by decide, hb.1, by omega, by omega⟩, fun q hq => new_list hm1 (rg_rp 0 n) c2 hq⟩
    · exact (c1.none' (n _ _ _)).elim⟩

/-! ### methods of lists -/
section
variable {o : Expr} {fo : Env → M Sv} {apos cpos : Pos}
/-- an owned list and what is done with it -/
def withL (x : Sv) (k : Nat → List D → M Sv) : M Sv := fun m => match x with
  | .r j => (match m[j]? with
    | some (.l ds) => k j ds m
    | _ => none)
  | _ => none
theorem vOwn {w : Wd} {m : Mem} {H : Hp} {x : Sv} {v : V} {k : Nat → List D → M Sv} {σ : L2.St} {Q : VK} (hm : Hm G.K w m H) (hx : RpS G.K w x v) (c : CoE G W σ Q w (withL x k) m) :
    ∃ j a ds vs, x = .r j ∧ v = .ref a ∧ w.φ[j]? = some a ∧ m[j]? = some (.l ds) ∧ H a = some (.lst vs) ∧ RpA G.K w.I vs ds ∧ CoE G W σ Q w (k j ds) m := by
  cases x with
  | d x => exact (c.none' rfl).elim
  | r j =>
    obtain ⟨a, ea, rfl⟩ := hx
    cases e : m[j]? with
    | none => exact (c.none' (by unfold withL; simp only [e])).elim
    | some u =>
      have q := hm.obj j a u ea e
      cases u with
      | l ds =>
        obtain ⟨vs, z, r⟩ := q
        exact ⟨j, a, ds, vs, rfl, rfl, ea, e, z, r, c.eqm (by unfold withL; simp only [e])⟩
      | dk ks ds => exact (c.none' (by unfold withL; simp only [e])).elim
      | fz d => exact (c.none' (by unfold withL; simp only [e])).elim
/-- what a step on an owned list does -/
theorem ownStep {w : Wd} {m : Mem} {H : Hp} {j : Nat} {a : Addr} {ds ds' : List D} {vs' : List V} {y : D} {v : V} {σ : L2.St} {Q : VK} (hm : Hm G.K w m H) (ea : w.φ[j]? = some a) (em : m[j]? = some (.l ds)) (r : RpA G.K w.I vs' ds') (ry : Rp G.K w.I v y)
    (c : CoE G W σ Q w (fun m => some (.ok (.d y), m.set j (.l ds'))) m) : Q v (upd H a (.lst vs')) := by
  obtain ⟨r1, m', e, p⟩ := c
  cases e
  exact p w _ (Wd.Le.refl w) (hm.set ea em rfl (o := .lst vs') (x := .l ds') ⟨vs', upd_same, r⟩ rfl) v ry
/-- xs.append(y) -/
def gApp (x : Sv) (ys : List Sv) : M Sv := match ys with
  | [y] => fun m => (match toD y m with
    | some (.ok d, m1) => withL x (fun j ds => M.if (ds.length < sizeLine) fun m => some (.ok (.d .non), m.set j (.l (ds ++ [d])))) m1
    | _ => none)
  | _ => M.no
/-- o.m(..): first the object, then the arguments -/
def fMt (g : Sv → List Sv → M Sv) (fo : Env → M Sv) (fs : Env → M (List Sv)) : Env → M Sv := fun env => (fo env).bd fun x => (fs env).bd fun ys => g x ys
theorem tyL {w : Wd} {m : Mem} {H : Hp} {x : Sv} {v : V} {j : Nat} {ds : List D} (hm : Hm G.K w m H) (hx : RpS G.K w x v) (e : x = .r j) (em : m[j]? = some (.l ds)) : tyV G.K "list" v H := by
  subst e
  obtain ⟨a, ea, rfl⟩ := hx
  obtain ⟨vs, z, _⟩ := hm.obj j a _ ea em
  exact .inl ⟨rfl, vs, .inl (.inl z)⟩
/-- a method of an owned list: it is one already ahead of the arguments -/
def fMtL (g : Sv → List Sv → M Sv) (fo : Env → M Sv) (fs : Env → M (List Sv)) : Env → M Sv := fun env => (fo env).bd fun x m => match x with
  | .r j => (match m[j]? with
    | some (.l _) => ((fs env).bd fun ys => g x ys) m
    | _ => none)
  | _ => none
theorem mtL_go {r : V → List V → Hp → VK → Prop} {g : Sv → List Sv → M Sv} (hK : G.K = X.K) (hg : ∀ (W : WX) (σ : L2.St) (w : Wd) (m : Mem) (H : Hp) (x : Sv) (ys : List Sv) (v : V) (us : List V) (Q : VK), Hm G.K w m H → RpS G.K w x v → RpL G.K w ys us → CoE G W σ Q w (g x ys) m → r v us H Q)
    (h : PE X e (tBM X.K "list" r (tI G W fo) (tA G W fs))) : PE X e (tI G W (fMtL g fo fs)) :=
  h.imp fun σ H Q ⟨w, env, m, hm, he, c⟩ => ⟨w, env, m, hm, he, bdEE c fun w1 m1 H1 x v l1 hm1 hx c1 => by
    cases x with
    | d x => exact (c1.none' rfl).elim
    | r j =>
      cases em : m1[j]? with
      | none => exact (c1.none' (by simp only [em])).elim
      | some u =>
        cases u with
        | l ds =>
          have c2 : CoE G W σ Q w1 ((fs env).bd fun ys => g (.r j) ys) m1 := c1.eqm (by simp only [em])
          refine ⟨by rw [← hK]; exact tyL hm1 hx rfl em, w1, env, m1, hm1, he.mono l1, bdAE c2 fun w2 m2 H2 ys us l2 hm2 hy c3 => hg W σ w2 m2 H2 _ ys v us Q hm2 (hx.mono l2) hy c3⟩
        | dk ks ds => exact (c1.none' (by simp only [em])).elim
        | fz d => exact (c1.none' (by simp only [em])).elim⟩
theorem snd_app (W : WX) (σ : L2.St) (w : Wd) (m : Mem) (H : Hp) (x : Sv) (ys : List Sv) (v : V) (us : List V) (Q : VK) (hm : Hm G.K w m H) (hx : RpS G.K w x v) (hy : RpL G.K w ys us) (c : CoE G W σ Q w (gApp x ys) m) : rAppend v us H Q := by
  unfold gApp at c
  split at c
  · rename_i y
    obtain ⟨u, rfl, hu⟩ := vlen1 hy
    rcases vD hm hu with ⟨d, m1, w1, e1, l1, h1, r1⟩ | n
    · have c2 := (c.eqm (b := withL x (fun j ds => M.if (ds.length < sizeLine) fun m => some (.ok (.d .non), m.set j (.l (ds ++ [d]))))) (m' := m1) (by rw [e1])).at' l1
      obtain ⟨j, a, ds, vs, rfl, rfl, ea, em, ha, r, c3⟩ := vOwn h1 (hx.mono l1) c2
      obtain ⟨hz, c4⟩ := c3.ifc
      exact ⟨a, vs, u, rfl, rfl, ha, by rw [r.length]; exact hz, ownStep h1 ea em (r.append (.cons r1 .nil)) Rp.non c4⟩
    · exact (c.none' (by rw [n])).elim
  · exact c.no.elim
theorem ie_app (hK : G.K = X.K) (ho : PE X o (tI G W fo)) (ha : PA X (e :: es) (tA G W fs))
    (hbase : attributeBase o "append" X.env (eval o X.env) = eval o X.env := by rfl)
    (hfew : ((backTo cpos (starEach (e :: es) X.env)).all (fun x => !x.1) && (backToKw cpos (keywordEach [] X.env)).all (fun x => x.1.isSome)
      && decide ((e :: es).length + ([] : List Keyword).length + (if ([] : List Keyword).isEmpty then 0 else 1) < 30)) = true := by rfl)
    (hline : (apos.endLine == cpos.line) = true := by rfl) (hs : starEach (e :: es) X.env = (false, eval e X.env) :: starEach es X.env := by rfl) (hplain : (backTo cpos (starEach es X.env)).any (·.1) = false := by rfl) :
    PE X (.Call (.Attribute o "append" apos) (e :: es) [] cpos) (tI G W (fMtL gApp fo fs)) :=
  mtL_go hK snd_app (pe_bm PySem.F.plainAttrs_list PySem.F.slot_list_append PySem.F.type_list_append mt_append ho ha hbase hfew hline hs hplain)
/-- xs.extend(ys), both lists -/
def gExt (x : Sv) (ys : List Sv) : M Sv := match ys with
  | [y] => (asK y).bd fun es => withL x (fun j ds => M.if (ds.length + es.length ≤ sizeLine) fun m => some (.ok (.d .non), m.set j (.l (ds ++ es))))
  | _ => M.no
theorem snd_ext (W : WX) (σ : L2.St) (w : Wd) (m : Mem) (H : Hp) (x : Sv) (ys : List Sv) (v : V) (us : List V) (Q : VK) (hm : Hm G.K w m H) (hx : RpS G.K w x v) (hy : RpL G.K w ys us) (c : CoE G W σ Q w (gExt x ys) m) : rExtend v us H Q := by
  unfold gExt at c
  split at c
  · rename_i y
    obtain ⟨u, rfl, hu⟩ := vlen1 hy
    rcases vK hm hu with ⟨b, ws, es, e1, rfl, hb, r1⟩ | n
    · obtain ⟨j, a, ds, vs, rfl, rfl, ea, em, ha, r, c3⟩ := vOwn hm hx (c.eqm (bd_of e1))
      obtain ⟨hz, c4⟩ := c3.ifc
      exact ⟨a, b, vs, ws, rfl, rfl, ha, hb, by rw [r.length, r1.length]; exact hz, ownStep hm ea em (r.append r1) Rp.non c4⟩
    · exact (c.none' (n _ _)).elim
  · exact c.no.elim
theorem ie_ext (hK : G.K = X.K) (ho : PE X o (tI G W fo)) (ha : PA X (e :: es) (tA G W fs))
    (hbase : attributeBase o "extend" X.env (eval o X.env) = eval o X.env := by rfl)
    (hfew : ((backTo cpos (starEach (e :: es) X.env)).all (fun x => !x.1) && (backToKw cpos (keywordEach [] X.env)).all (fun x => x.1.isSome)
      && decide ((e :: es).length + ([] : List Keyword).length + (if ([] : List Keyword).isEmpty then 0 else 1) < 30)) = true := by rfl)
    (hline : (apos.endLine == cpos.line) = true := by rfl) (hs : starEach (e :: es) X.env = (false, eval e X.env) :: starEach es X.env := by rfl) (hplain : (backTo cpos (starEach es X.env)).any (·.1) = false := by rfl) :
    PE X (.Call (.Attribute o "extend" apos) (e :: es) [] cpos) (tI G W (fMtL gExt fo fs)) :=
  mtL_go hK snd_ext (pe_bm PySem.F.plainAttrs_list PySem.F.slot_list_extend PySem.F.type_list_extend mt_extend ho ha hbase hfew hline hs hplain)
/-- xs.pop(i) -/
def gPopAt (x : Sv) (ys : List Sv) : M Sv := match ys with
  | [y] => (asI y).bd fun i => withL x (fun j ds => M.if (-(2 ^ 63) ≤ i ∧ i < 2 ^ 63) (match seqIndex? i ds.length with
    | some k => (match ds[k]? with
      | some d => fun m => some (.ok (.d d), m.set j (.l (ds.eraseIdx k)))
      | none => M.no)
    | none => M.no))
  | _ => M.no
theorem snd_popAt (W : WX) (σ : L2.St) (w : Wd) (m : Mem) (H : Hp) (x : Sv) (ys : List Sv) (v : V) (us : List V) (Q : VK) (hm : Hm G.K w m H) (hx : RpS G.K w x v) (hy : RpL G.K w ys us) (c : CoE G W σ Q w (gPopAt x ys) m) : rPopAt v us H Q := by
  unfold gPopAt at c
  split at c
  · rename_i y
    obtain ⟨u, rfl, hu⟩ := vlen1 hy
    rcases vI hu with ⟨i, rfl, rfl⟩ | n
    · obtain ⟨j, a, ds, vs, rfl, rfl, ea, em, ha, r, c3⟩ := vOwn hm hx (c.eqm (bd_ok (x := i)))
      obtain ⟨hz, c4⟩ := c3.ifc
      split at c4
      · rename_i k hk
        split at c4
        · rename_i d hd
          obtain ⟨z, hzv, rz⟩ := r.get hd
          exact ⟨a, vs, i, k, z, rfl, rfl, ha, hz.1, hz.2, by rw [r.length]; exact hk, hzv, ownStep hm ea em (r.erase k) rz c4⟩
        · exact c4.no.elim
      · exact c4.no.elim
    · exact (c.none' (n _ _ _)).elim
  · exact c.no.elim
theorem ie_popAt (hK : G.K = X.K) (ho : PE X o (tI G W fo)) (ha : PA X (e :: es) (tA G W fs))
    (hbase : attributeBase o "pop" X.env (eval o X.env) = eval o X.env := by rfl)
    (hfew : ((backTo cpos (starEach (e :: es) X.env)).all (fun x => !x.1) && (backToKw cpos (keywordEach [] X.env)).all (fun x => x.1.isSome)
      && decide ((e :: es).length + ([] : List Keyword).length + (if ([] : List Keyword).isEmpty then 0 else 1) < 30)) = true := by rfl)
    (hline : (apos.endLine == cpos.line) = true := by rfl) (hs : starEach (e :: es) X.env = (false, eval e X.env) :: starEach es X.env := by rfl) (hplain : (backTo cpos (starEach es X.env)).any (·.1) = false := by rfl) :
    PE X (.Call (.Attribute o "pop" apos) (e :: es) [] cpos) (tI G W (fMtL gPopAt fo fs)) :=
  mtL_go hK snd_popAt (pe_bm PySem.F.plainAttrs_list PySem.F.slot_list_pop PySem.F.type_list_pop mt_popAt ho ha hbase hfew hline hs hplain)
end
end
end MR

namespace MR
open PySem PySem.Spec PyProof.Rows L2
section
variable {X : Cx} {G : Gm} {W : WX} {a b c e : Expr} {es : List Expr} {fa fb fc : Env → M Sv} {fs : Env → M (List Sv)} {pos p : Pos} {tg : Expr}
/-! ### + -/
def gAdd (o : Bool) (x y : Sv) : M Sv := match x, y with
  | .d (.int i), .d (.int j) => M.ok (.d (.int (i + j)))
  | .d (.str i), .d (.str j) => M.if (i.length + j.length ≤ sizeLine) (M.ok (.d (.str (i ++ j))))
  | .d (.tup i), .d (.tup j) => M.if (i.length + j.length ≤ sizeLine) (M.ok (.d (.tup (i ++ j))))
  | x, y => (asK x).bd fun i => (asK y).bd fun j => M.if (i.length + j.length ≤ sizeLine) (mkL o (i ++ j))
def rAddA (K : PySem.W.Frag) : R2 := fun x y H Q => ((rI0 fun i j => .int (i + j)) x y H Q ∨ (∃ i j, x = .str i ∧ y = .str j ∧ i.length + j.length ≤ sizeLine ∧ Q (.str (i ++ j)) H)) ∨ (rCatA K x y H Q ∨ rCat x y H Q)
theorem op_addA (hK : G.K = X.K) : OpR X (binaryOp .Add) (rAddA G.K) := by
  rw [hK]
  exact (op_add.or op_add_str).or (op_catA.or op_cat)
theorem snd_add {o : Bool} : Snd2 G (rAddA G.K) (gAdd o) := by
  intro W σ w m H x y v u Q hm hx hy c
  unfold gAdd at c
  split at c
  · cases hx
    cases hy
    exact .inl (.inl ⟨_, _, rfl, rfl, c.ret hm (Rp.int _)⟩)
  · cases hx
    cases hy
    obtain ⟨hz, c2⟩ := c.ifc
    exact .inl (.inr ⟨_, _, rfl, rfl, hz, c2.ret hm (Rp.str _)⟩)
  · rename_i i j
    obtain ⟨hz, c2⟩ := c.ifc
    have hx' := hx
    have hy' := hy
    cases hx with
    | @tup ax xs _ h1 h2 =>
      cases hy with
      | @tup ay ys _ h3 h4 =>
        refine .inr (.inl ⟨ax, ay, xs, ys, rfl, rfl, (hm.exI.trans hm.exF).st h1, (hm.exI.trans hm.exF).st h3, by rw [h2.length, h4.length]; exact hz, fun e => ?_, fun _ e => ?_, fun _ _ p hp => ?_⟩)
        · have : i = [] := by
            have := h2.length
            rw [e] at this
            exact List.length_eq_zero_iff.mp this.symm
          subst this
          exact c2.ret hm hy'
        · have : j = [] := by
            have := h4.length
            rw [e] at this
            exact List.length_eq_zero_iff.mp this.symm
          subst this
          rw [List.append_nil] at c2
          exact c2.ret hm hx'
        · exact new_tup hm (h2.append h4) c2 hp
  · rcases vK hm hx with ⟨ax, xs, ds, e1, rfl, h2, r⟩ | n
    · have c1 := c.eqm (bd_of e1)
      rcases vK hm hy with ⟨ay, ys, es, e2, rfl, h4, r2⟩ | n
      · obtain ⟨hz, c2⟩ := (c1.eqm (bd_of e2)).ifc
        exact .inr (.inr ⟨ax, ay, xs, ys, rfl, rfl, h2, h4, by rw [r.length, r2.length]; exact hz, fun p hp => new_list hm (r.append r2) c2 hp⟩)
      · exact (c1.none' (n _ _)).elim
    · exact (c.none' (n _ _)).elim
theorem ie_add (o : Bool) (hK : G.K = X.K) (ha : PE X a (tI G W fa)) (hb : PE X b (tI G W fb)) : PE X (.BinOp a .Add b pos) (tI G W (f2 (gAdd o) fa fb)) := ie_op2 snd_add (op_addA hK) ha hb
/-! ### a text so many times: none or once -/
theorem op_mul_str01 : OpR X (binaryOp .Mult) (fun x y H Q => ∃ z n, x = .str z ∧ y = .int n ∧ (n = 0 ∨ n = 1) ∧ Q (.str (if n = 0 then Str.empty else z)) H) := by
  intro pins s σ H x y v u Q I rx ry h
  obtain ⟨z, n, rfl, rfl, hn, q⟩ := h
  obtain ⟨t, rfl⟩ := rx
  obtain ⟨t', rfl⟩ := ry
  rcases hn with rfl | rfl
  · exact PySem.P.mul_str_none (by decide) (by decide) ⟨.str Str.empty, H, I.tok _, ⟨_, rfl⟩, q⟩
  · refine PySem.P.mul_str (by decide) (fun _ h => by simp at h) (fun _ h => by simp at h) ?_
    rw [if_neg (by decide), if_pos (by simp)]
    exact ⟨.str z, H, I, ⟨_, rfl⟩, q⟩
def gMulS (x y : Sv) : M Sv := (asS x).bd fun z => (asI y).bd fun n => M.if (n = 0 ∨ n = 1) (M.ok (.d (.str (if n = 0 then Str.empty else z))))
theorem snd_mulS : Snd2 G (fun x y H Q => ∃ z n, x = .str z ∧ y = .int n ∧ (n = 0 ∨ n = 1) ∧ Q (.str (if n = 0 then Str.empty else z)) H) gMulS := by
  intro W σ w m H x y v u Q hm hx hy c
  rcases vS hx with ⟨z, rfl, rfl⟩ | n
  · rcases vI hy with ⟨n, rfl, rfl⟩ | n
    · obtain ⟨hz, c2⟩ := CoE.ifc (a := M.ok (.d (.str (if n = 0 then Str.empty else z)))) (c := n = 0 ∨ n = 1) c
      exact ⟨z, n, rfl, rfl, hz, c2.ret hm (Rp.str _)⟩
    · exact (c.none' (n _ _ _)).elim
  · exact (c.none' (n _ _ _)).elim
theorem ie_mulA (hK : G.K = X.K) (ha : PE X a (tI G W fa)) (hb : PE X b (tI G W fb)) : PE X (.BinOp a .Mult b pos) (tI G W (f2 gMulS fa fb)) := ie_op2 snd_mulS op_mul_str01 ha hb
/-! ### sep.join(xs) -/
def strsOf : List D → Option (List Str)
  | [] => some []
  | .str x :: ds => (match strsOf ds with
    | some xs => some (x :: xs)
    | none => none)
  | _ :: _ => none
theorem strsOf_map : ∀ ns : List Str, strsOf (ns.map D.str) = some ns
  | [] => rfl
  | n :: ns => by
    show (match strsOf (ns.map D.str) with
      | some xs => some (n :: xs)
      | none => none) = _
    rw [strsOf_map ns]
theorem strsOf_rp {K : PySem.W.Frag} {I : Hp} : ∀ {ds : List D} {vs : List V} {ns : List Str}, strsOf ds = some ns → RpA K I vs ds → vs = ns.map V.str
  | [], _, ns, e, .nil => by
    cases e
    rfl
  | d :: ds, _, ns, e, .cons h r => by
    cases d with
    | str x =>
      have e' : (match strsOf ds with
        | some xs => some (x :: xs)
        | none => none) = some ns := e
      cases q : strsOf ds with
      | none =>
        rw [q] at e'
        cases e'
      | some xs =>
        rw [q] at e'
        cases e'
        cases h
        rw [strsOf_rp q r]
        rfl
    | _ => cases e
/-- the items of a list or a tuple -/
def asQ : Sv → M (List D)
  | .d (.tup ds) => M.ok ds
  | y => asL y
theorem vQ {w : Wd} {m : Mem} {H : Hp} {x : Sv} {v : V} (hm : Hm G.K w m H) (h : RpS G.K w x v) : (∃ a vs ds, asQ x m = some (.ok ds, m) ∧ v = .ref a ∧ (SqL G.K H a vs ∨ SqT G.K H a vs) ∧ RpA G.K w.I vs ds) ∨ ∀ (β : Type) (k : List D → M β), (asQ x).bd k m = none := by
  unfold asQ
  split
  · cases h with
    | tup h1 h2 => exact .inl ⟨_, _, _, rfl, rfl, .inr ((hm.exI.trans hm.exF).st h1), h2⟩
  · rcases vL hm h with ⟨a, vs, ds, e1, rfl, h2, r⟩ | n
    · exact .inl ⟨a, vs, ds, e1, rfl, .inl h2, r⟩
    · exact .inr n
def gJoin (z : Str) (y : Sv) : M Sv := (asQ y).bd fun ds => match strsOf ds with
  | some ys => M.if ((ys.map (·.length)).sum + ys.length * z.length ≤ 16777216) (M.ok (.d (.str (Txt.join z ys))))
  | none => M.no
def fJoin (fa fb : Env → M Sv) : Env → M Sv := fun env => (fa env).bd fun x => (asS x).bd fun z => (fb env).bd fun y => gJoin z y
theorem ie_join {o : Expr} {apos : Pos} (hK : G.K = X.K) (ho : PE X o (tI G W fa)) (he : PE X e (tI G W fb)) (hs : starEach [e] X.env = [(false, eval e X.env)] := by rfl) (hbase : attributeBase o "join" X.env (eval o X.env) = eval o X.env := by rfl) (hline : (apos.endLine == pos.line) = true := by rfl) :
    PE X (.Call (.Attribute o "join" apos) [e] [] pos) (tI G W (fJoin fa fb)) :=
  (pe_join ho he hs hbase hline).imp fun σ H Q ⟨w, env, m, hm, he, c⟩ => ⟨w, env, m, hm, he, bdEE c fun w1 m1 H1 x v l1 hm1 hx c1 => by
    rcases vS hx with ⟨z, rfl, rfl⟩ | n
    · refine ⟨⟨z, rfl⟩, w1, env, m1, hm1, he.mono l1, bdEE (c1.eqm (bd_ok (x := z))) fun w2 m2 H2 y u l2 hm2 hy c2 => ?_⟩
      rcases vQ hm2 hy with ⟨a, vs, ds, e1, rfl, hsq, r⟩ | n
      · have c3 := c2.eqm (bd_of e1)
        split at c3
        · rename_i ys hys
          have ev := strsOf_rp hys r
          subst ev
          obtain ⟨hz, c4⟩ := c3.ifc
          exact ⟨z, a, ys, rfl, rfl, by rw [← hK]; exact hsq, hz, c4.ret hm2 (Rp.str _)⟩
        · exact c3.no.elim
      · exact (c2.none' (n _ _)).elim
    · exact (c1.none' (n _ _ _)).elim⟩
/-! ### slices -/
def tO (G : Gm) (W : WX) (f : Env → M (Option Int)) : TO := fun σ H Q => ∃ w env m, Hm G.K w m H ∧ RpE G.K w env σ ∧ ∃ r m', f env m = some (r, m') ∧ ∀ w' H', Wd.Le w w' → Hm G.K w' m' H' → match r with
  | .ok x => Q x H'
  | .error e => ∀ cls d, RpX G w' e cls d H' → W cls d σ H'
def fON : Env → M (Option Int) := fun _ => M.ok none
def fOS (f : Env → M Sv) : Env → M (Option Int) := fun env => (f env).bd fun x => (asI x).bd fun i => M.ok (some i)
theorem _root_.L2.PO.imp {e : Option Expr} {t u : TO} (h : PO X e t) (i : ∀ σ H Q, u σ H Q → t σ H Q) : PO X e u := ⟨fun pins s σ H Q I q => h.run pins s σ H Q I (i σ H Q q)⟩
theorem io_none : PO X none (tO G W fON) := po_none.imp fun σ H Q ⟨w, env, m, hm, he, r, m', e, q⟩ => by
  cases e
  exact q w H (Wd.Le.refl w) hm
theorem io_some (h : PE X e (tI G W fa)) : PO X (some e) (tO G W (fOS fa)) := (po_some h).imp fun σ H Q ⟨w, env, m, hm, he, r, m', e, q⟩ => by
  refine ⟨w, env, m, hm, he, ?_⟩
  unfold fOS at e
  cases h1 : fa env m with
  | none =>
    rw [bd_none h1] at e
    cases e
  | some p1 =>
    obtain ⟨r1, m1⟩ := p1
    refine ⟨r1, m1, h1, fun w' H' l hm' => ?_⟩
    cases r1 with
    | error x =>
      have e' : (some (.error x, m1) : Option (Except Xc (Option Int) × Mem)) = some (r, m') := by
        rw [← e]
        unfold M.bd
        rw [h1]
      cases e'
      exact fun cls d hx => q w' H' l hm' cls d hx
    | ok x =>
      intro v hv
      rw [bd_of h1] at e
      rcases vI hv with ⟨i, rfl, rfl⟩ | n
      · cases e
        exact ⟨i, rfl, q w' H' l hm'⟩
      · have := n (Option Int) (fun i => M.ok (some i)) m1
        rw [this] at e
        cases e
/-- the part of a list -/
def cutD (ds : List D) (lo hi : Option Int) : List D := (ds.drop (HT.sIx ds.length 0 lo)).take (HT.sIx ds.length ds.length hi - HT.sIx ds.length 0 lo)
theorem cutD_rp {K : PySem.W.Frag} {I : Hp} {vs : List V} {ds : List D} {lo hi : Option Int} (r : RpA K I vs ds) : RpA K I (cutV vs lo hi) (cutD ds lo hi) := by
  unfold cutV cutD
  rw [r.length]
  exact (r.drop _).take _
def gSl (o : Bool) (x : Sv) (lo hi : Option Int) : M Sv := match x with
  | .d (.str z) => M.if (z.length ≤ sizeLine) (M.ok (.d (.str (cutS z lo hi))))
  | .d (.tup ds) => M.ok (.d (.tup (cutD ds lo hi)))
  | x => (asL x).bd fun ds => mkL o (cutD ds lo hi)
def fSl (o : Bool) (f : Env → M Sv) (fl fh : Env → M (Option Int)) : Env → M Sv := fun env => (f env).bd fun x => (fl env).bd fun lo => (fh env).bd fun hi => gSl o x lo hi
def rSl (K : PySem.W.Frag) : V → Option Int → Option Int → Hp → VK → Prop := fun x lo hi H Q => (rSlL K x lo hi H Q ∨ rSlS x lo hi H Q) ∨ rSlA K x lo hi H Q
theorem sl_all (hK : G.K = X.K) : SlR X (rSl G.K) := by
  rw [hK]
  exact (sl_list.or sl_str).or sl_tupA
theorem cutD_whole {ds : List D} {lo hi : Option Int} (h : HT.sIx ds.length 0 lo = 0 ∧ HT.sIx ds.length ds.length hi = ds.length) : cutD ds lo hi = ds := by
  unfold cutD
  rw [h.1, h.2, List.drop_zero, Nat.sub_zero, List.take_length]
theorem snd_sl {o : Bool} {σ : L2.St} {w : Wd} {m : Mem} {H : Hp} {x : Sv} {v : V} {lo hi : Option Int} {Q : VK} (hm : Hm G.K w m H) (hx : RpS G.K w x v) (c : CoE G W σ Q w (gSl o x lo hi) m) : rSl G.K v lo hi H Q := by
  unfold gSl at c
  split at c
  · cases hx
    obtain ⟨hz, c2⟩ := c.ifc
    exact .inl (.inr ⟨_, rfl, hz, c2.ret hm (Rp.str _)⟩)
  · rename_i ds
    have hx' := hx
    cases hx with
    | @tup a vs _ h1 h2 =>
      refine .inr ⟨a, vs, rfl, (hm.exI.trans hm.exF).st h1, fun e => ?_, fun _ p hp => new_tup hm (cutD_rp h2) c hp⟩
      rw [h2.length] at e
      rw [cutD_whole e] at c
      exact c.ret hm hx'
  · rcases vL hm hx with ⟨a, vs, ds, e1, rfl, h2, r⟩ | n
    · exact .inl (.inl ⟨a, vs, rfl, h2, fun p hp => new_list hm (cutD_rp r) (c.eqm (bd_of e1)) hp⟩)
    · exact (c.none' (n _ _)).elim
theorem bdO {Q : VK} {σ : L2.St} {w : Wd} {m : Mem} {R : Option Int → Hp → Prop} {f : M (Option Int)} {k : Option Int → M Sv} (c : CoE G W σ Q w (f.bd k) m) (h : ∀ w' m' H' x, Wd.Le w w' → Hm G.K w' m' H' → CoE G W σ Q w' (k x) m' → R x H') :
    ∃ r m', f m = some (r, m') ∧ ∀ w' H', Wd.Le w w' → Hm G.K w' m' H' → match r with
      | .ok x => R x H'
      | .error e => ∀ cls d, RpX G w' e cls d H' → W cls d σ H' := by
  obtain ⟨r, m', e, p⟩ := c
  unfold M.bd at e
  split at e
  · rename_i x m1 ea
    exact ⟨.ok x, m1, ea, fun w' H' l hm => h w' m1 H' x l hm ⟨r, m', e, p.at' l⟩⟩
  · rename_i x m1 ea
    cases e
    exact ⟨.error x, m', ea, fun w' H' l hm cls d q => p w' H' l hm cls d q⟩
  · cases e
theorem ie_sl (o : Bool) {lo hi : Option Expr} {p2 : Pos} {fl fh : Env → M (Option Int)} (hK : G.K = X.K) (h : PE X e (tI G W fa)) (hl : PO X lo (tO G W fl)) (hh : PO X hi (tO G W fh)) : PE X (.Subscript e (.Slice lo hi none p2) pos) (tI G W (fSl o fa fl fh)) :=
  (pe_slice (sl_all hK) h hl hh).imp fun σ H Q ⟨w, env, m, hm, he, c⟩ => ⟨w, env, m, hm, he, bdEE c fun w1 m1 H1 x v l1 hm1 hx c1 =>
    ⟨w1, env, m1, hm1, he.mono l1, bdO c1 fun w2 m2 H2 lo l2 hm2 c2 => ⟨w2, env, m2, hm2, (he.mono l1).mono l2, bdO c2 fun w3 m3 H3 hi l3 hm3 c3 => snd_sl hm3 ((hx.mono l2).mono l3) c3⟩⟩⟩
/-! ### min, max of two; sum, all, any of a list; str, abs -/
def gII2 (g : Int → Int → Int) : List Sv → M Sv
  | [.d (.int i), .d (.int j)] => M.ok (.d (.int (g i j)))
  | _ => M.no
theorem snd_II2 {g : Int → Int → Int} : SndL G (fun xs H Q => ∃ i j, xs = [.int i, .int j] ∧ Q (.int (g i j)) H) (gII2 g) := by
  intro W σ w m H xs vs Q hm hx c
  unfold gII2 at c
  split at c
  · obtain ⟨v, u, rfl, hv, hu⟩ := vlen2 hx
    cases hv
    cases hu
    exact ⟨_, _, rfl, c.ret hm (Rp.int _)⟩
  · exact c.no.elim
abbrev gMax2 : List Sv → M Sv := gII2 fun i j => if j > i then j else i
abbrev gMin2 : List Sv → M Sv := gII2 fun i j => if j < i then j else i
theorem ie_max2 (hc : X.calm = true) (gl : Gl X "max") (hm : X.mg "max" = none) (ha : PA X (e :: es) (tA G W fs))
    (he : starEach (e :: es) X.env = (false, eval e X.env) :: starEach es X.env := by rfl) (hpl : (backTo pos (starEach es X.env)).any (·.1) = false := by rfl) : PE X (.Call (.Name "max" p) (e :: es) [] pos) (tI G W (fL gMax2 fs)) :=
  ie_cb snd_II2 (call_max2 hc) gl hm (by decide +kernel) ha (by decide) (by decide) he hpl
theorem ie_min2 (hc : X.calm = true) (gl : Gl X "min") (hm : X.mg "min" = none) (ha : PA X (e :: es) (tA G W fs))
    (he : starEach (e :: es) X.env = (false, eval e X.env) :: starEach es X.env := by rfl) (hpl : (backTo pos (starEach es X.env)).any (·.1) = false := by rfl) : PE X (.Call (.Name "min" p) (e :: es) [] pos) (tI G W (fL gMin2 fs)) :=
  ie_cb snd_II2 (call_min2 hc) gl hm (by decide +kernel) ha (by decide) (by decide) he hpl
def gI1 (g : Int → D) (c : Int → Prop) [∀ i, Decidable (c i)] : List Sv → M Sv
  | [.d (.int i)] => M.if (c i) (M.ok (.d (g i)))
  | _ => M.no
theorem snd_I1 {g : Int → D} {gv : Int → V} {c : Int → Prop} [∀ i, Decidable (c i)] (hg : ∀ I i, Rp G.K I (gv i) (g i)) : SndL G (fun xs H Q => ∃ i, xs = [.int i] ∧ c i ∧ Q (gv i) H) (gI1 g c) := by
  intro W σ w m H xs vs Q hm hx c
  unfold gI1 at c
  split at c
  · obtain ⟨v, rfl, hv⟩ := vlen1 hx
    cases hv
    obtain ⟨hz, c2⟩ := c.ifc
    exact ⟨_, rfl, hz, c2.ret hm (hg _ _)⟩
  · exact c.no.elim
abbrev cStr (i : Int) : Prop := -(10 ^ 18) < i ∧ i < 10 ^ 19
abbrev gStr1 : List Sv → M Sv := gI1 (fun i => .str (toString i)) cStr
theorem cStr_ok {i : Int} (h : cStr i) : i.natAbs.log2 < 1920 := Nat.lt_of_lt_of_le (PySem.Flt.log2_lt_of (by decide : 0 < 64) (by have h1 := h.1; have h2 := h.2; omega)) (by decide)
theorem ie_str1 (gl : Gl X "str") (hm : X.mg "str" = none) (ha : PA X (e :: es) (tA G W fs))
    (he : starEach (e :: es) X.env = (false, eval e X.env) :: starEach es X.env := by rfl) (hpl : (backTo pos (starEach es X.env)).any (·.1) = false := by rfl) : PE X (.Call (.Name "str" p) (e :: es) [] pos) (tI G W (fL gStr1 fs)) :=
  ie_ct (snd_I1 (gv := fun i => .str (toString i)) fun _ _ => .str _) (fun pins s σ H xs us Q I r ⟨i, ex, hc, q⟩ => call_str_int pins s σ H xs us Q I r ⟨i, ex, cStr_ok hc, q⟩) gl hm (by decide +kernel) ha (by decide) (by decide) he hpl
abbrev gAbs1 : List Sv → M Sv := gI1 (fun i => .int (if i < 0 then -i else i)) fun _ => True
theorem ie_abs1 (gl : Gl X "abs") (hm : X.mg "abs" = none) (ha : PA X (e :: es) (tA G W fs))
    (he : starEach (e :: es) X.env = (false, eval e X.env) :: starEach es X.env := by rfl) (hpl : (backTo pos (starEach es X.env)).any (·.1) = false := by rfl) : PE X (.Call (.Name "abs" p) (e :: es) [] pos) (tI G W (fL gAbs1 fs)) :=
  ie_cb (snd_I1 (gv := fun i => .int (if i < 0 then -i else i)) fun _ _ => .int _) (fun pins s σ H xs us Q I r ⟨i, ex, _, q⟩ => call_abs pins s σ H xs us Q I r ⟨i, ex, q⟩) gl hm (by decide +kernel) ha (by decide) (by decide) he hpl
def intsOf : List D → Option (List Int)
  | [] => some []
  | .int x :: ds => (match intsOf ds with
    | some xs => some (x :: xs)
    | none => none)
  | _ :: _ => none
theorem intsOf_map : ∀ ns : List Int, intsOf (ns.map D.int) = some ns
  | [] => rfl
  | n :: ns => by
    show (match intsOf (ns.map D.int) with
      | some xs => some (n :: xs)
      | none => none) = _
    rw [intsOf_map ns]
theorem intsOf_rp {K : PySem.W.Frag} {I : Hp} : ∀ {ds : List D} {vs : List V} {ns : List Int}, intsOf ds = some ns → RpA K I vs ds → vs = ns.map V.int
  | [], _, ns, e, .nil => by
    cases e
    rfl
  | d :: ds, _, ns, e, .cons h r => by
    cases d with
    | int x =>
      have e' : (match intsOf ds with
        | some xs => some (x :: xs)
        | none => none) = some ns := e
      cases q : intsOf ds with
      | none =>
        rw [q] at e'
        cases e'
      | some xs =>
        rw [q] at e'
        cases e'
        cases h
        rw [intsOf_rp q r]
        rfl
    | _ => cases e
def blsOf : List D → Option (List Bool)
  | [] => some []
  | .bl x :: ds => (match blsOf ds with
    | some xs => some (x :: xs)
    | none => none)
  | _ :: _ => none
theorem blsOf_map : ∀ ns : List Bool, blsOf (ns.map D.bl) = some ns
  | [] => rfl
  | n :: ns => by
    show (match blsOf (ns.map D.bl) with
      | some xs => some (n :: xs)
      | none => none) = _
    rw [blsOf_map ns]
theorem blsOf_rp {K : PySem.W.Frag} {I : Hp} : ∀ {ds : List D} {vs : List V} {ns : List Bool}, blsOf ds = some ns → RpA K I vs ds → vs = ns.map V.bl
  | [], _, ns, e, .nil => by
    cases e
    rfl
  | d :: ds, _, ns, e, .cons h r => by
    cases d with
    | bl x =>
      have e' : (match blsOf ds with
        | some xs => some (x :: xs)
        | none => none) = some ns := e
      cases q : blsOf ds with
      | none =>
        rw [q] at e'
        cases e'
      | some xs =>
        rw [q] at e'
        cases e'
        cases h
        rw [blsOf_rp q r]
        rfl
    | _ => cases e
def gLs {α : Type} (f : List D → Option (List α)) (g : List α → D) : List Sv → M Sv
  | [x] => (asL x).bd fun ds => match f ds with
    | some ns => M.ok (.d (g ns))
    | none => M.no
  | _ => M.no
theorem snd_Ls {α : Type} {f : List D → Option (List α)} {g : List α → D} {gv : List α → V} {mk : α → V} (hf : ∀ {I : Hp} {ds : List D} {vs : List V} {ns : List α}, f ds = some ns → RpA G.K I vs ds → vs = ns.map mk) (hg : ∀ I ns, Rp G.K I (gv ns) (g ns)) :
    SndL G (fun vs H Q => ∃ (a : Addr) (ns : List α), vs = [V.ref a] ∧ SqL G.K H a (ns.map mk) ∧ Q (gv ns) H) (gLs f g) := by
  intro W σ w m H xs vs Q hm hx c
  unfold gLs at c
  split at c
  · obtain ⟨v, rfl, hv⟩ := vlen1 hx
    rcases vL hm hv with ⟨a, us, ds, e1, rfl, h2, r⟩ | n
    · have c2 := c.eqm (bd_of e1)
      split at c2
      · rename_i ns hn
        have := hf hn r
        subst this
        exact ⟨a, ns, rfl, h2, c2.ret hm (hg _ _)⟩
      · exact c2.no.elim
    · exact (c.none' (n _ _)).elim
  · exact c.no.elim
abbrev gSum : List Sv → M Sv := gLs intsOf fun ns => .int ns.sum
abbrev gAll : List Sv → M Sv := gLs blsOf fun ns => .bl (ns.all id)
abbrev gAny : List Sv → M Sv := gLs blsOf fun ns => .bl (ns.any id)
theorem ie_sum (hK : G.K = X.K) (hc : X.calm = true) (gl : Gl X "sum") (hm : X.mg "sum" = none) (ha : PA X (e :: es) (tA G W fs))
    (he : starEach (e :: es) X.env = (false, eval e X.env) :: starEach es X.env := by rfl) (hpl : (backTo pos (starEach es X.env)).any (·.1) = false := by rfl) : PE X (.Call (.Name "sum" p) (e :: es) [] pos) (tI G W (fL gSum fs)) :=
  ie_cb (snd_Ls (mk := V.int) (gv := fun ns => .int ns.sum) intsOf_rp fun _ _ => .int _) (by rw [hK]; exact cr_sum hc) gl hm (by decide +kernel) ha (by decide) (by decide) he hpl
theorem ie_all (hK : G.K = X.K) (hc : X.calm = true) (gl : Gl X "all") (hm : X.mg "all" = none) (ha : PA X (e :: es) (tA G W fs))
    (he : starEach (e :: es) X.env = (false, eval e X.env) :: starEach es X.env := by rfl) (hpl : (backTo pos (starEach es X.env)).any (·.1) = false := by rfl) : PE X (.Call (.Name "all" p) (e :: es) [] pos) (tI G W (fL gAll fs)) :=
  ie_cb (snd_Ls (mk := V.bl) (gv := fun ns => .bl (ns.all id)) blsOf_rp fun _ _ => .bl _) (by rw [hK]; exact cr_all hc) gl hm (by decide +kernel) ha (by decide) (by decide) he hpl
theorem ie_any (hK : G.K = X.K) (hc : X.calm = true) (gl : Gl X "any") (hm : X.mg "any" = none) (ha : PA X (e :: es) (tA G W fs))
    (he : starEach (e :: es) X.env = (false, eval e X.env) :: starEach es X.env := by rfl) (hpl : (backTo pos (starEach es X.env)).any (·.1) = false := by rfl) : PE X (.Call (.Name "any" p) (e :: es) [] pos) (tI G W (fL gAny fs)) :=
  ie_cb (snd_Ls (mk := V.bl) (gv := fun ns => .bl (ns.any id)) blsOf_rp fun _ _ => .bl _) (by rw [hK]; exact cr_any hc) gl hm (by decide +kernel) ha (by decide) (by decide) he hpl
/-! ### a < b < c -/
def fChain (g g' : Sv → Sv → M Sv) (fa fb fc : Env → M Sv) : Env → M Sv := fun env => (fa env).bd fun x => (fb env).bd fun y => (g x y).bd fun z => (asB z).bd fun k => if k = true then (fc env).bd fun u => g' y u else M.ok (.d (.bl false))
theorem chain_go {op op' : CmpOp} {r r' : R2} {g g' : Sv → Sv → M Sv} (hg : Snd2 G r g) (hg' : Snd2 G r' g') {σ : L2.St} {H : Hp} {Q : VK} (q : tI G W (fChain g g' fa fb fc) σ H Q) : tChain r r' (tI G W fa) (tI G W fb) (tI G W fc) σ H Q := by
  obtain ⟨w, env, m, hm, he, c⟩ := q
  refine ⟨w, env, m, hm, he, bdEE c fun w1 m1 H1 x v l1 hm1 hx c1 => ⟨w1, env, m1, hm1, he.mono l1, bdEE c1 fun w2 m2 H2 y u l2 hm2 hy c2 => ?_⟩⟩
  refine hg W σ w2 m2 H2 x y v u _ hm2 (hx.mono l2) hy (bdEE c2 fun w3 m3 H3 z t l3 hm3 hz c3 => ?_)
  rcases vB hz with ⟨k, rfl, rfl⟩ | n
  · refine ⟨k, rfl, ?_⟩
    have c4 := c3.eqm (bd_ok (x := k))
    cases k with
    | true =>
      rw [if_pos rfl]
      exact ⟨w3, env, m3, hm3, ((he.mono l1).mono l2).mono l3, bdEE c4 fun w4 m4 H4 s t l4 hm4 hs c5 => hg' W σ w4 m4 H4 y s u t Q hm4 ((hy.mono l3).mono l4) hs c5⟩
    | false =>
      rw [if_neg Bool.false_ne_true]
      exact CoE.ret (x := .d (.bl false)) c4 hm3 (Rp.bl _)
  · exact (c3.none' (n _ _ _)).elim
/-- of ints -/
class CmpI (op : CmpOp) (g : outParam (Sv → Sv → M Sv)) (r : outParam R2) : Prop where
  op : ∀ X : Cx, OpR X (compareOp op) r
  snd : ∀ G : Gm, Snd2 G r g
instance : CmpI .Lt gLt (rI0 fun i j => .bl (decide (i < j))) := ⟨fun _ => op_lt, fun _ => snd_I0 fun _ _ _ => .bl _⟩
instance : CmpI .LtE gLe (rI0 fun i j => .bl (decide (i ≤ j))) := ⟨fun _ => op_le, fun _ => snd_I0 fun _ _ _ => .bl _⟩
instance : CmpI .Gt gGt (rI0 fun i j => .bl (decide (j < i))) := ⟨fun _ => op_gt, fun _ => snd_I0 fun _ _ _ => .bl _⟩
instance : CmpI .GtE gGe (rI0 fun i j => .bl (decide (j ≤ i))) := ⟨fun _ => op_ge, fun _ => snd_I0 fun _ _ _ => .bl _⟩
theorem ie_chain {op op' : CmpOp} {r r' : R2} {g g' : Sv → Sv → M Sv} [h1 : CmpI op g r] [h2 : CmpI op' g' r'] (ha : PE X a (tI G W fa)) (hb : PE X b (tI G W fb)) (hc : PE X c (tI G W fc)) (hm : lastMarks [op, op'] [b, c] = false := by with_unfolding_all rfl) :
    PE X (.Compare a [op, op'] [b, c] pos) (tI G W (fChain g g' fa fb fc)) :=
  (pe_chain (h1.op X) (h2.op X) ha hb hc hm).imp fun σ H Q q => chain_go (op := op) (op' := op') (h1.snd G) (h2.snd G) q
theorem it_chain {op op' : CmpOp} {r r' : R2} {g g' : Sv → Sv → M Sv} [h1 : CmpI op g r] [h2 : CmpI op' g' r'] (ha : PE X a (tI G W fa)) (hb : PE X b (tI G W fb)) (hc : PE X c (tI G W fc)) (hm : lastMarks [op, op'] [b, c] = false := by with_unfolding_all rfl) :
    PT X (.Compare a [op, op'] [b, c] pos) (tT G W (fB (fChain g g' fa fb fc))) :=
  (pt_chain (h1.op X) (h2.op X) ha hb hc hm).imp fun σ H Q ⟨w, env, m, hm, he, c⟩ => chain_go (op := op) (op' := op') (h1.snd G) (h2.snd G) ⟨w, env, m, hm, he, co_test c⟩
end
end MR

namespace MR
open PySem PySem.Spec PyProof.Rows L2
/-! ### own exceptions: their making -/
/-- __init__ with one field f -/
def spI1 (K : PySem.W.Frag) (f : Str) : Sp := fun vs H Q _ => ∃ (a C : Addr) (y : V), vs = [.ref a, y] ∧ OexC K C ∧ PySem.W.findIn K (.ref C) f = some none ∧ H a = some (exo a C none) ∧
  ∀ dx, H dx = none → dx ≠ a → Q .non (upd (upd H dx (exd dx [(f, y)])) a (exo a C (some dx)))
/-- __init__ without a field -/
def spI0 (K : PySem.W.Frag) : Sp := fun vs H Q _ => ∃ a C : Addr, vs = [.ref a] ∧ OexC K C ∧ H a = some (exo a C none) ∧ Q .non H
/-- the class at the root -/
structure Rt (K : PySem.W.Frag) (mg : Str → Option Value) (x : Str) : Prop where
  ex : ∃ C0 : Addr, mg x = some (.ref C0) ∧ PySem.W.specialIn K (.ref C0) "__getattribute__" = some (some (.builtin "type.__getattribute__")) ∧ PySem.W.readsIn K C0 (.type "type") = true ∧
    PySem.W.findCls K (.ref C0) (.type "type") "__init__" = some (.val (.builtin "ValueError.__init__"))
section
variable {X : Cx}
theorem pe_rinit {b : Str} {e : Expr} {es : List Expr} {ta : TA} {p1 p2 pos : Pos} {pl : Sem Bool} (R : Rt X.K X.mg b) (hg : Gl X b) (ha : PA X (e :: es) ta) (hdb : (b == ("__debug__" : Str)) = false := by decide)
    (hc : eval (.Call (.Attribute (.Name b p1) "__init__" p2) (e :: es) [] pos) X.env = (do
      let root ← eval (.Name b p1) X.env
      standAt p2.atName
      let (fn, front) ← holding [root] (getMethod root "__init__" pl)
      callWith pos fn front (backTo pos (starEach (e :: es) X.env)) (backToKw pos (keywordEach [] X.env))) := by rfl)
    (he : starEach (e :: es) X.env = (false, eval e X.env) :: starEach es X.env := by rfl) (hpl : (backTo pos (starEach es X.env)).any (·.1) = false := by rfl) :
    PE X (.Call (.Attribute (.Name b p1) "__init__" p2) (e :: es) [] pos) (tVeI X.K ta) := by
  obtain ⟨C0, hm, h1, h2, h3⟩ := R.ex
  refine ⟨fun pins s σ H Q I h => ?_⟩
  refine PySem.W.methodCall_KW (ld_glob I hg hm ?_ hdb) hc
  refine PySem.W.method_cls I.kIn h1 (PySem.W.cls_value I.kIn h2 h3 (by decide +kernel) ?_)
  show wpAny _ _ (callWith pos (Value.builtin "ValueError.__init__") [] (backTo pos (starEach (e :: es) X.env)) []) _ _ _
  refine PyProof.Rows.callWith_method1 (thn (ha.run pos pins _ σ H _ (I.tok _) h) fun us s1 ⟨vs, H1, I1, r1, a, C, ws, ev, hl, T, ea, q⟩ => ?_) he hpl
  subst ev
  cases r1 with
  | cons ra rest =>
    cases ra
    refine oinit_ok T I1 ea ?_ fun s' J => ⟨.non, H1, J, rfl, q⟩
    have := Paired.length rest
    rw [sizeLine_eq]
    omega
/-- C(..) of an own class that has its __init__ -/
theorem run_mkx {pins : List (Addr × Obj)} {σ : L2.St} {H1 : Hp} {s1 : Shared} {us : List Value} {vs : List V} {C fI : Addr} {k : Nat} {fd : FuncData} {ps : List Str} {sp : Sp} {R : Addr → Hp → Prop} {Q : Value → Shared → Prop}
    (T : OexC X.K C) (iC : PySem.W.findIn X.K (.ref C) "__init__" = some (some (.ref fI))) (tI : PySem.W.typeIn X.K (.ref fI) = some (.type "function"))
    (F1 : FnOk X.prog X.w X.K X.mg X.base (L2.CX X.prog X.w) k fI fd ps sp) (hr : Room (k + 1) X.A) (hb : Binds X.K fd ps []) (I1 : Inv X pins σ H1 s1) (r1 : Vals vs us) (hz : vs.length ≤ 1000)
    (hq : ∀ a, H1 a = none → sp (.ref a :: vs) (upd H1 a (exo a C none)) (fun v H2 => v = .non ∧ R a H2) E0)
    (fin : ∀ (a : Addr) (H2 : Hp) (hp2 : Heap) (s2 : Shared), s1.heap.objs.size ≤ a → (∀ b o, s1.heap.get? b = some o → hp2.get? b = some o) → Un (frs X.stack) [] (upd H1 a (exo a C none)) H2 hp2 s2.heap → HOk X.prog X.w H2 s2.heap → s2.os = s1.os → AllBare s2.gens → R a H2 → Q (.ref a) s2) :
    wpAny (model X.prog X.w) X.A (call (.ref C) us) Q X.xe s1 := by
  obtain ⟨nm, q, N, bs, bm, sn, sub, ab, col, dd, k0, k1, k2, k3, k5, hC, hbm⟩ := T.cls
  obtain ⟨hp, g, dr, tk, os⟩ := s1
  have big : hp.objs.size ≤ hp.objs.size + 1 := Nat.le_succ _
  have hn : H1 (hp.objs.size + 1) = none := I1.hok.fresh big
  have grow : ∀ b o, hp.get? b = some o → ((hp.push (PySem.W.kdv_tup us)).push (PySem.HandSPX.excO C hp.objs.size)).get? b = some o := fun b o e => Heap.get?_push_of_some _ (Heap.get?_push_of_some _ e)
  have here : ((hp.push (PySem.W.kdv_tup us)).push (PySem.HandSPX.excO C hp.objs.size)).get? (hp.objs.size + 1) = some (PySem.HandSPX.excO C hp.objs.size) := by heap_get
  have J : Inv X pins σ (upd H1 (hp.objs.size + 1) (exo (hp.objs.size + 1) C none)) ⟨(hp.push (PySem.W.kdv_tup us)).push (PySem.HandSPX.excO C hp.objs.size), g, dr, tk, os⟩ :=
    I1.laid (t' := tk) (a := hp.objs.size + 1) (o := exo (hp.objs.size + 1) C none) (h' := (hp.push (PySem.W.kdv_tup us)).push (PySem.HandSPX.excO C hp.objs.size)) grow big (exo_ok here)
  have rr : Vals (V.ref (hp.objs.size + 1) :: vs) (Value.ref (hp.objs.size + 1) :: us) := .cons rfl r1
  have sp' := hq (hp.objs.size + 1) hn
  have hl : (Value.ref (hp.objs.size + 1) :: us).length = ps.length := by
    have e := rr.length
    rw [F1.len _ _ _ _ sp'] at e
    exact e.symm
  have hus : us.length ≤ sizeLine := by
    rw [← Paired.length r1, sizeLine_eq]
    omega
  have hx : Passes (L2.CX X.prog X.w) X E0 := passL
  refine wpAny_call (PySem.HandSPX.call_own F.excBase_ValueError (fun Y => PySem.HandSPX.refsVE_contains Y bm hbm) (I1.kIn _ _ hC) (PySem.W.looks_findIn I1.kIn iC) (fun self => PySem.W.bind_fn I1.kIn self tI) hus
    (codeAny_mono (F1.run _ X.stack _ _ ⟨Value.ref (hp.objs.size + 1) :: us, []⟩ (Value.ref (hp.objs.size + 1) :: us) _ _ E0 (hr.make C us []) (J.env0.make C us []) ?_ rr sp') fun r s' hq' => ?_))
  · have := hb _ (Value.ref (hp.objs.size + 1) :: us) J.kIn (by simpa using hl)
    simpa using this
  · cases r with
    | error er => exact hx pins σ _ _ er s' J hq'
    | ok fl =>
      cases fl with
      | ret u =>
        obtain ⟨v, H2, os2, bare2, un2, hok2, rv, ev, rx⟩ := hq'
        subst ev
        exact ⟨rv, fin _ H2 _ s' big grow un2 hok2 os2 bare2 rx⟩
      | next => exact False.elim hq'
      | brk => exact False.elim hq'
      | cont => exact False.elim hq'
theorem un_off {H1 H2 : Hp} {hp hp2 h2 : Heap} {a C : Addr} {fs : List Addr} (nf : ∀ o, hp.get? a ≠ some o) (hn : H1 a = none) (kk : ∀ b o, hp.get? b = some o → hp2.get? b = some o) (un : Un fs [] (upd H1 a (exo a C none)) H2 hp2 h2) : Un fs [] H1 H2 hp h2 := by
  have ne : ∀ {b : Addr} {o : Obj}, hp.get? b = some o → b ≠ a := fun {b o} z e => nf o (by rw [← e]; exact z)
  have up : ∀ {b : Addr}, b ≠ a → H1 b = none → upd H1 a (exo a C none) b = none := fun {b} hb n => by rw [upd_ne hb]; exact n
  exact ⟨fun b o z n hf hx => un.keep b o (kk b o z) (up (ne z) n) hf hx, fun b o z n hf hx => un.slot b o (kk b o z) (up (ne z) n) hf hx, fun b o z n hx => un.free b o (kk b o z) (up (ne z) n) hx, fun b o z hx => un.there b o (kk b o z) hx,
    fun b xs z => un.tups b xs (by rw [upd_ne (ne_of_none z hn)]; exact z), fun b o v z => un.frzs b o v (by rw [upd_ne (ne_of_none z hn)]; exact z), fun b ps z => un.tbls b ps (by rw [upd_ne (ne_of_none z hn)]; exact z)⟩
/-- the end of C() without a dict: the exception is let go -/
theorem mk_none {pins : List (Addr × Obj)} {σ : L2.St} {H1 : Hp} {Q : XK} {s1 s2 : Shared} {hp2 : Heap} {a C : Addr} (T : Raises X (.ref C)) (I1 : Inv X pins σ H1 s1) (ha : s1.heap.objs.size ≤ a) (kk : ∀ b o, s1.heap.get? b = some o → hp2.get? b = some o)
    (un : Un (frs X.stack) [] (upd H1 a (exo a C none)) (upd H1 a (exo a C none)) hp2 s2.heap) (hok : HOk X.prog X.w (upd H1 a (exo a C none)) s2.heap) (ho : s2.os = s1.os) (hb : AllBare s2.gens) (q : Q (.ref C) none H1) : MkP X pins σ Q (.ref a) s2 := by
  obtain ⟨t0, hoe⟩ := exo_at hok (upd_same)
  have hn : H1 a = none := I1.hok.fresh ha
  obtain ⟨h2, g2, d2, t2, os2⟩ := s2
  obtain ⟨B, b1, b2⟩ := restrict h2 fun b => decide (b ≠ a)
  have gk : ∀ b, b ≠ a → B.get? b = h2.get? b := fun b hb => b1 b (decide_eq_true hb)
  have ge : B.get? a = none := b2 a (by simp)
  have ne : ∀ {b : Addr} {o : Obj}, s1.heap.get? b = some o → b ≠ a := fun {b o} z => Nat.ne_of_lt (Nat.lt_of_lt_of_le (Heap.lt_size z) ha)
  have un' := un_off (fun o z => ne z rfl) hn kk un
  have U : Un (frs X.stack) [] H1 H1 s1.heap B := ⟨fun b o z n hf hx => by rw [gk b (ne z)]; exact un'.keep b o z n hf hx, fun b o z n hf hx => by rw [gk b (ne z)]; exact un'.slot b o z n hf hx, fun b o z n hx => n, fun b o z hx => by rw [gk b (ne z)]; exact un'.there b o z hx,
    fun b xs z => z, fun b o v z => z, fun b ps z => ⟨#[], by rw [z]; simp⟩⟩
  have hok3 : HOk X.prog X.w H1 B := fun b o z => by
    have hba : b ≠ a := ne_of_none z hn
    have z2 : upd H1 a (exo a C none) b = some o := by rw [upd_ne hba]; exact z
    refine (hok b o z2).stay (fun c v hc y => ?_) (fun c hc => ?_) fun c xs hc => ?_
    · have hca : c ≠ a := by
        rcases hc with hc | hc
        · rw [hc]; exact hba
        · exact at_ne upd_same hc exo_own
      rw [gk c hca]
      exact y
    · rw [upd_ne (at_ne upd_same hc exo_own)] at hc
      exact hc
    · rw [upd_ne (at_ne upd_same hc exo_tup)] at hc
      exact hc
  have J : Inv X pins σ H1 ⟨B, g2, d2, t2, os2⟩ := I1.call' (ch := []) ho U hok3 hb (fun b z => absurd z (by simp))
  refine ⟨a, _, _, ⟨B, g2, d2, t2, os2⟩, H1, .ref C, none, rfl, J, fun b o z => ?_, ge, hoe, ⟨rfl, rfl⟩, rfl, rfl, hn, rfl, hb, T, q⟩
  by_cases hba : b = a
  · have z' : B.get? b = some o := z
    rw [hba, ge] at z'
    cases z'
  · exact (gk b hba).symm.trans z
/-- what an own class of the text is: its name, at C; its __init__ keeps sp -/
structure Mk (P : Program) (w : World) (K : PySem.W.Frag) (mg : Str → Option Value) (base : Heap) (G : Gm) (x : Str) (ks : List Str) (sp : Sp) : Prop where
  ex : ∃ (C fI : Addr) (fd : FuncData) (ps : List Str), G.cl x = some C ∧ mg x = some (.ref C) ∧ PySem.W.keepIn K (.ref C) = true ∧ OexC K C ∧ Rx K C ks ∧ PySem.W.findIn K (.ref C) "__init__" = some (some (.ref fI)) ∧ PySem.W.typeIn K (.ref fI) = some (.type "function") ∧ FnOk P w K mg base (L2.CX P w) 1 fI fd ps sp ∧ Binds K fd ps []
theorem upd_del {H1 : Hp} {a dx C : Addr} {o : HO} (f : Str) (y : V) (ha : H1 a = none) (ne : dx ≠ a) : upd (L2.del (upd (upd (upd H1 a (exo a C none)) dx (exd dx [(f, y)])) a (exo a C (some dx))) a) dx o = upd H1 dx o := by
  funext b
  by_cases h1 : b = dx
  · rw [h1, upd_same, upd_same]
  · rw [upd_ne h1, upd_ne h1]
    by_cases h2 : b = a
    · rw [h2, L2.del_same, ha]
    · rw [L2.del_ne h2, upd_ne h2, upd_ne h1, upd_ne h2]
/-- raise C(e), C with one field -/
def sRz1 (x f : Str) (fs : Env → M (List Sv)) : SM := fun env m => match fs env m with
  | some (.ok [y], m1) => (match toD y m1 with
    | some (.ok d, m2) => some (.rs env (.mk x [(f, d)]), m2)
    | _ => none)
  | some (.error e, m1) => some (.rs env e, m1)
  | _ => none
/-- raise C(), C without a field -/
def sRz0 (x : Str) : SM := fun env m => some (.rs env (.mk x []), m)
/-- raise C(e), C without own __init__ -/
def sRzB (x : Str) (fs : Env → M (List Sv)) : SM := fun env m => match fs env m with
  | some (.ok [_], m1) => some (.rs env (.mk x []), m1)
  | some (.error e, m1) => some (.rs env e, m1)
  | _ => none
/-- C(e) as a value -/
def fEx (f : Str) (fs : Env → M (List Sv)) : Env → M Sv := fun env m => match fs env m with
  | some (.ok [y], m1) => (match toD y m1 with
    | some (.ok d, m2) => some (.ok (.d (.ex [f] [d])), m2)
    | _ => none)
  | some (.error e, m1) => some (.error e, m1)
  | _ => none
variable {G : Gm} {W : WX} {x f : Str} {e : Expr} {p pos pos2 : Pos} {fs : Env → M (List Sv)}
theorem RpL.one {K : PySem.W.Frag} {w : Wd} {y : Sv} {vs : List V} (h : RpL K w [y] vs) : ∃ v, vs = [v] ∧ RpS K w y v := by
  cases h with
  | cons a b =>
    cases b
    exact ⟨_, rfl, a⟩
theorem is_rz1 (hK : G.K = X.K) (M1 : Mk X.prog X.w X.K X.mg X.base G x [f] (spI1 X.K f)) (hr : Room 2 X.A) (hc : X.calm = true) (tk : Takes X W) (hg : Gl X x) (ha : PA X [e] (tA G W fs))
    (hdb : (x == ("__debug__" : Str)) = false := by decide) (he : starEach [e] X.env = (false, eval e X.env) :: starEach [] X.env := by rfl) (hpl : (backTo pos (starEach [] X.env)).any (·.1) = false := by rfl) :
    PS X (.Raise (some (.Call (.Name x p) [e] [] pos)) none pos2) (tS G W (sRz1 x f fs)) := by
  obtain ⟨C, fI, fd, ps, hcl, hmg, kC, T, Rr, iC, tI, F1, hb⟩ := M1.ex
  have mk : PMk X (.Call (.Name x p) [e] [] pos) (fun σ H Q => tA G W fs σ H fun vs H1 => ∃ y, vs = [y] ∧ ∀ dx, H1 dx = none → Q (.ref C) (some dx) (upd H1 dx (.xd [(f, y)]))) := by
    intro pins s σ H Q I h
    refine wpAny_Call_Name_kw (ld_glob I hg hmg ?_ hdb)
    refine PySem.W.callWith_K (h₀ := X.base) I.ok.mod.kin kC (thn (ha.run pos pins s σ H _ I h) fun us s1 ⟨vs, H1, I1, r1, y, ev, q⟩ => ⟨I1.kIn, ?_⟩) he hpl
    subst ev
    show wpAny _ _ (call (.ref C) us) _ _ _
    refine run_mkx (R := fun a H2 => ∃ dx, H1 dx = none ∧ dx ≠ a ∧ H2 = upd (upd (upd H1 a (exo a C none)) dx (exd dx [(f, y)])) a (exo a C (some dx))) T iC tI F1 hr hb I1 r1 (by simp) (fun a na => ?_) fun a H2 hp2 s2 big kk un hok ho hg2 ⟨dx, ndx, ne, eH⟩ => ?_
    · refine ⟨a, C, y, rfl, T, Rr.no f (by simp), upd_same, fun dx hdx ne => ⟨rfl, dx, ?_, ne, rfl⟩⟩
      rw [upd_ne ne] at hdx
      exact hdx
    · obtain ⟨hp, g1, d1, t1, os1⟩ := s1
      obtain ⟨h2, g2, d2, t2, os2⟩ := s2
      have na : H1 a = none := I1.hok.fresh big
      subst eH
      refine mk_end (d2 := d2) (t2 := t2) (raises_own T.exC T.tyC) I1 big kk un hok ho hg2 (d := dx) (fs := [(f, y)]) upd_same (by rw [upd_ne ne, upd_same]) ndx ?_
      rw [upd_del f y na ne]
      exact q dx ndx
  refine (ps_raise hc tk mk).imp fun D σ H ⟨w, env, m, hm, hE, o, m', ec, pp⟩ => ?_
  refine ⟨w, env, m, hm, hE, ?_⟩
  unfold sRz1 at ec
  cases h1 : fs env m with
  | none =>
    rw [h1] at ec
    cases ec
  | some q =>
    obtain ⟨r, m1⟩ := q
    rw [h1] at ec
    cases r with
    | error z =>
      cases ec
      exact ⟨.error z, m', h1, fun w' H' l hm' cls d q => pp w' H' l hm' σ cls d (hE.mono l) q⟩
    | ok ys =>
      refine ⟨.ok ys, m1, h1, fun w' H' l hm' vs hv => ?_⟩
      match ys, ec, hv with
      | [y], ec, hv =>
        obtain ⟨v, rfl, rv⟩ := hv.one
        refine ⟨v, rfl, fun dx ndx => ?_⟩
        rcases vD hm' rv with ⟨d, m3, w3, e3, l3, h3, r3⟩ | n
        · dsimp only at ec
          rw [e3] at ec
          cases ec
          have l4 := Wd.imm_le h3 (.xd [(f, v)]) ndx
          refine pp _ _ (l.trans (l3.trans l4)) (h3.imm (.xd [(f, v)]) ndx) σ (.ref C) (some dx) (hE.mono (l.trans (l3.trans l4))) ⟨C, hcl, rfl, .inr ⟨dx, [v], rfl, upd_same, .cons (r3.mono l4.I) .nil⟩⟩
        · dsimp only at ec
          rw [n] at ec
          cases ec
      | [], ec, hv => cases ec
      | _ :: _ :: _, ec, hv => cases ec
theorem is_rz0 (hK : G.K = X.K) (M1 : Mk X.prog X.w X.K X.mg X.base G x [] (spI0 X.K)) (hr : Room 2 X.A) (hc : X.calm = true) (tk : Takes X W) (hg : Gl X x) (hdb : (x == ("__debug__" : Str)) = false := by decide) :
    PS X (.Raise (some (.Call (.Name x p) [] [] pos)) none pos2) (tS G W (sRz0 x)) := by
  obtain ⟨C, fI, fd, ps, hcl, hmg, kC, T, Rr, iC, tI, F1, hb⟩ := M1.ex
  have mk : PMk X (.Call (.Name x p) [] [] pos) (fun σ H Q => Q (.ref C) none H) := by
    intro pins s σ H Q I h
    refine wpAny_Call_Name_kw (ld_glob I hg hmg ?_ hdb)
    refine PySem.W.callWith_K0 I.kIn kC ?_
    show wpAny _ _ (call (.ref C) []) _ _ _
    refine run_mkx (R := fun a H2 => H2 = upd H (a : Addr) (exo a C none)) T iC tI F1 hr hb I .nil (by simp) (fun a na => ⟨a, C, rfl, T, upd_same, rfl, rfl⟩) fun a H2 hp2 s2 big kk un hok ho hg2 eH => ?_
    subst eH
    exact mk_none (raises_own T.exC T.tyC) I big kk un hok ho hg2 h
  refine (ps_raise hc tk mk).imp fun D σ H ⟨w, env, m, hm, hE, o, m', ec, pp⟩ => ?_
  cases ec
  exact pp w H (Wd.Le.refl w) hm σ (.ref C) none hE ⟨C, hcl, rfl, .inl ⟨rfl, rfl⟩⟩
theorem is_rzB {bmB : List Value} {B newId initId : String} {C : Addr} (F : ExcBaseFacts B newId initId bmB) (q : PySem.W.excIn X.K C bmB newId = true) (hcl : G.cl x = some C) (hmg : X.mg x = some (.ref C)) (kC : PySem.W.keepIn X.K (.ref C) = true) (rs : Raises X (.ref C))
    (hc : X.calm = true) (tk : Takes X W) (hg : Gl X x) (ha : PA X [e] (tA G W fs)) (hdb : (x == ("__debug__" : Str)) = false := by decide)
    (he : starEach [e] X.env = (false, eval e X.env) :: starEach [] X.env := by rfl) (hpl : (backTo pos (starEach [] X.env)).any (·.1) = false := by rfl) :
    PS X (.Raise (some (.Call (.Name x p) [e] [] pos)) none pos2) (tS G W (sRzB x fs)) := by
  refine (ps_raise hc tk (pmk_ownA F q hmg kC rs hg ha hdb he hpl)).imp fun D σ H ⟨w, env, m, hm, hE, o, m', ec, pp⟩ => ?_
  refine ⟨w, env, m, hm, hE, ?_⟩
  unfold sRzB at ec
  cases h1 : fs env m with
  | none =>
    rw [h1] at ec
    cases ec
  | some q =>
    obtain ⟨r, m1⟩ := q
    rw [h1] at ec
    cases r with
    | error z =>
      cases ec
      exact ⟨.error z, m', h1, fun w' H' l hm' cls d q => pp w' H' l hm' σ cls d (hE.mono l) q⟩
    | ok ys =>
      refine ⟨.ok ys, m1, h1, fun w' H' l hm' vs hv => ?_⟩
      match ys, ec, hv with
      | [y], ec, hv =>
        obtain ⟨v, rfl, rv⟩ := hv.one
        cases ec
        exact ⟨by simp [sizeLine_eq], pp w' H' l hm' σ (.ref C) none (hE.mono l) ⟨C, hcl, rfl, .inl ⟨rfl, rfl⟩⟩⟩
      | [], ec, hv => cases ec
      | _ :: _ :: _, ec, hv => cases ec
theorem ie_exv (hK : G.K = X.K) (M1 : Mk X.prog X.w X.K X.mg X.base G x [f] (spI1 X.K f)) (hr : Room 2 X.A) (hg : Gl X x) (ha : PA X [e] (tA G W fs))
    (hdb : (x == ("__debug__" : Str)) = false := by decide) (he : starEach [e] X.env = (false, eval e X.env) :: starEach [] X.env := by rfl) (hpl : (backTo pos (starEach [] X.env)).any (·.1) = false := by rfl) :
    PE X (.Call (.Name x p) [e] [] pos) (tI G W (fEx f fs)) := by
  obtain ⟨C, fI, fd, ps, hcl, hmg, kC, T, Rr, iC, tI, F1, hb⟩ := M1.ex
  have mk : PE X (.Call (.Name x p) [e] [] pos) (fun σ H Q => tA G W fs σ H fun vs H1 => ∃ y, vs = [y] ∧ ∀ a dx, H1 a = none → H1 dx = none → dx ≠ a → Q (.ref a) (upd (upd (upd H1 a (exo a C none)) dx (exd dx [(f, y)])) a (exo a C (some dx)))) := by
    refine ⟨fun pins s σ H Q I h => ?_⟩
    refine wpAny_Call_Name_kw (ld_glob I hg hmg ?_ hdb)
    refine PySem.W.callWith_K (h₀ := X.base) I.ok.mod.kin kC (thn (ha.run pos pins s σ H _ I h) fun us s1 ⟨vs, H1, I1, r1, y, ev, q⟩ => ⟨I1.kIn, ?_⟩) he hpl
    subst ev
    show wpAny _ _ (call (.ref C) us) _ _ _
    refine run_mkx (R := fun a H2 => ∃ dx, H1 dx = none ∧ dx ≠ a ∧ H2 = upd (upd (upd H1 a (exo a C none)) dx (exd dx [(f, y)])) a (exo a C (some dx))) T iC tI F1 hr hb I1 r1 (by simp) (fun a na => ?_) fun a H2 hp2 s2 big kk un hok ho hg2 ⟨dx, ndx, ne, eH⟩ => ?_
    · refine ⟨a, C, y, rfl, T, Rr.no f (by simp), upd_same, fun dx hdx ne => ⟨rfl, dx, ?_, ne, rfl⟩⟩
      rw [upd_ne ne] at hdx
      exact hdx
    · have na : H1 a = none := I1.hok.fresh big
      subst eH
      have un' := un_off (fun o z => absurd (Heap.lt_size z) (Nat.not_lt.mpr big)) na kk un
      exact ⟨.ref a, _, I1.call' (ch := []) ho un' hok hg2 (fun b z => absurd z (by simp)), rfl, q a dx na ndx ne⟩
  refine mk.imp fun σ H Q ⟨w, env, m, hm, hE, o, m', ec, pp⟩ => ?_
  refine ⟨w, env, m, hm, hE, ?_⟩
  unfold fEx at ec
  cases h1 : fs env m with
  | none =>
    rw [h1] at ec
    cases ec
  | some q =>
    obtain ⟨r, m1⟩ := q
    rw [h1] at ec
    cases r with
    | error z =>
      cases ec
      exact ⟨.error z, m', h1, fun w' H' l hm' cls d q => pp w' H' l hm' cls d q⟩
    | ok ys =>
      refine ⟨.ok ys, m1, h1, fun w' H' l hm' vs hv => ?_⟩
      match ys, ec, hv with
      | [y], ec, hv =>
        obtain ⟨v, rfl, rv⟩ := hv.one
        refine ⟨v, rfl, fun a dx na ndx ne => ?_⟩
        rcases vD hm' rv with ⟨d, m3, w3, e3, l3, h3, r3⟩ | n
        · dsimp only at ec
          rw [e3] at ec
          cases ec
          have l4 := Wd.imm_le h3 (exd dx [(f, v)]) ndx
          have h4 := h3.imm (exd dx [(f, v)]) ndx
          have na4 : upd H' dx (exd dx [(f, v)]) a = none := by
            rw [upd_ne (Ne.symm ne)]
            exact na
          have l5 := Wd.imm_le h4 (exo a C (some dx)) na4
          have h5 := h4.imm (exo a C (some dx)) na4
          have eq : upd (upd (upd H' a (exo a C none)) dx (exd dx [(f, v)])) a (exo a C (some dx)) = upd (upd H' dx (exd dx [(f, v)])) a (exo a C (some dx)) := by
            funext b
            by_cases h1 : b = a
            · rw [h1, upd_same, upd_same]
            · rw [upd_ne h1, upd_ne h1]
              by_cases h2 : b = dx
              · rw [h2, upd_same, upd_same]
              · rw [upd_ne h2, upd_ne h2, upd_ne h1]
          rw [eq]
          refine pp _ _ (l.trans (l3.trans (l4.trans l5))) h5 (.ref a) ?_
          refine Rp.ex (C := C) (dd := dx) (xs := [v]) upd_same ?_ (hK ▸ Rr) (.cons (r3.mono (l4.trans l5).I) .nil)
          show upd (upd w3.I dx (exd dx [(f, v)])) a (exo a C (some dx)) dx = _
          rw [upd_ne ne, upd_same]
          rfl
        · dsimp only at ec
          rw [n] at ec
          cases ec
      | [], ec, hv => cases ec
      | _ :: _ :: _, ec, hv => cases ec
/-- a field by its name -/
def fldOf (n : Str) : List Str → List D → Option D
  | k :: ks, d :: ds => if n = k then some d else fldOf n ks ds
  | _, _ => none
theorem RpA.fld {K : PySem.W.Frag} {I : Hp} {n : Str} {d : D} : ∀ {ks : List Str} {vs : List V} {ds : List D}, RpA K I vs ds → fldOf n ks ds = some d → ∃ v, (ks.zip vs).lookup n = some v ∧ Rp K I v d
  | [], _, _, _, h => by
    unfold fldOf at h
    cases h
  | k :: ks, _, _, .nil, h => by
    unfold fldOf at h
    cases h
  | k :: ks, _, _, .cons (v := v) (vs := vs) a b, h => by
    unfold fldOf at h
    show ∃ u, List.lookup n ((k, v) :: ks.zip vs) = some u ∧ _
    rw [lookup_put]
    split at h
    · rename_i e
      cases h
      exact ⟨v, by rw [if_pos e], a⟩
    · rename_i e
      rw [if_neg e]
      exact RpA.fld b h
def gAtt (n : Str) : Sv → M Sv
  | .d (.ex ks ds) => (match fldOf n ks ds with
    | some d => if n ∈ ks then M.ok (.d d) else M.no
    | none => M.no)
  | _ => M.no
variable {fa : Env → M Sv} {n : Str}
/-- e.n of an exception made as a value -/
theorem ie_att (hK : G.K = X.K) (he : PE X e (tI G W fa)) (hb : attributeBase e n X.env (eval e X.env) = eval e X.env := by rfl) : PE X (.Attribute e n pos) (tI G W (fun env => (fa env).bd (gAtt n))) := by
  refine ⟨fun pins s σ H Q I h => ?_⟩
  obtain ⟨w, env, m, hm, hE, c⟩ := h
  refine attr_of hb (thn (he.run pins s σ H (fun v H1 => ∃ (a dd C : Addr) (ks : List Str) (xs : List V) (u : V), v = .ref a ∧ H1 a = some (exo a C (some dd)) ∧ H1 dd = some (exd dd (ks.zip xs)) ∧ Rx X.K C ks ∧ n ∈ ks ∧ (ks.zip xs).lookup n = some u ∧ Q u H1) I ⟨w, env, m, hm, hE, bdEE c fun w1 m1 H1 x v l1 hm1 hx c1 => ?_⟩) fun u s1 hh => ?_)
  · cases x with
    | r k => exact c1.no.elim
    | d x =>
      cases x with
      | ex ks ds =>
        have hx' : Rp G.K w1.I v (.ex ks ds) := hx
        cases hx' with
        | ex h1 h2 h3 h4 =>
          rename_i a dd C xs
          have c1' : CoE G W σ Q w1 (match fldOf n ks ds with
            | some d => if n ∈ ks then M.ok (Sv.d d) else M.no
            | none => M.no) m1 := c1
          split at c1'
          · rename_i d hd
            split at c1'
            · rename_i hn
              obtain ⟨u, hu, ru⟩ := RpA.fld h4 hd
              have ex := hm1.exI.trans hm1.exF
              exact ⟨a, dd, C, ks, xs, u, rfl, ex _ _ h1, ex _ _ h2, hK ▸ h3, hn, hu, c1'.ret hm1 ru⟩
            · exact c1'.no.elim
          · exact c1'.no.elim
      | _ => exact c1.no.elim
  · obtain ⟨x, H1, I1, rx, a, dd, C, ks, xs, v, ex, h1, h2, h3, hn, hl, q⟩ := hh
    subst ex
    cases rx
    obtain ⟨t1, ho⟩ := exo_at I1.hok h1
    obtain ⟨mA, hns, hr⟩ := exd_at I1.hok h2
    obtain ⟨oe, es, ep, ho2, r2⟩ := hns
    obtain ⟨od, hod, hlk⟩ := lookIn_ns (show s1.heap.Ns1 dd mA from ⟨oe, es, ep, ho2, r2⟩)
    obtain ⟨u, hu, ru⟩ := RelO.some_of (v := v) (o := mA n) (by rw [← hl]; exact hr n)
    have J : PySem.W.InstAt s1.heap a _ C (some od) := ⟨ho, rfl, rfl, hod⟩
    exact HandSPX.exc_get I1.kIn J h3.ga h3.gg h3.sb (PySem.W.findObj_own h3.hd (h3.no n hn) rfl (by rw [hlk, hu])) (handed_of ru) ⟨v, H1, I1.tok _, ru, q⟩
end
end MR

namespace MR
open PySem PySem.Spec PyProof.Rows L2
/-! ### try, with clauses of one name or of more, with a name for the error or without -/
theorem fly_keeps {B h h' : Heap} {l : List PySem.Env} {a : Addr} {Z : Obj → Prop} (x : HandSPX.FlyingZ B l a Z h) (k : ∀ b o, h.get? b = some o → h'.get? b = some o) : HandSPX.FlyingZ B l a Z h' := by
  obtain ⟨k1, k2, k3, oe, vs, T, oT, ts, he, hz, hd, h1, hn, hne, hT, hdT, h3⟩ := x
  exact ⟨fun b o q => k b o (k1 b o q), k2, k3.of_keeps fun b o q _ => ⟨o, k b o q, rfl⟩, oe, vs, T, oT, ts, k _ _ he, hz, hd, h1, hn, hne, k _ _ hT, hdT, h3⟩
def TestOk (X : Cx) (te : Expr) (tst : Value → Option Bool) : Prop :=
  ∀ (a : Addr) (pn : List (Addr × Obj)) (oe : Obj) (σ : L2.St) (H : Hp) (s : Shared) (cls : Value) (b : Bool) (Q : Bool → Shared → Prop) (E : Value → Shared → Prop), Inv (X.suite a ((a, oe) :: pn)) [] σ H s → PySem.W.Looks (model X.prog X.w) s.heap (typeOf (.ref a)) cls → tst cls = some b →
    (∀ h', (∀ q o, s.heap.get? q = some o → h'.get? q = some o) → Q b { s with heap := h' }) →
    wpAny (model X.prog X.w) (X.A.mark (some (.ref a))) (eval te X.env) (fun c s1 => wpAny (model X.prog X.w) (X.A.mark (some (.ref a))) (excMatches (.ref a) c) Q E s1) E s
section
variable {X : Cx} {x x1 x2 x3 x4 : Str} {c c1 c2 c3 c4 : Value} {np p1 p2 p3 p4 tp : Pos} {j : Nat}
theorem name_in {a : Addr} {pn : List (Addr × Obj)} {oe : Obj} {σ : L2.St} {H : Hp} {s : Shared} {Q : Value → Shared → Prop} {E : Value → Shared → Prop} (hc : Names X x c) (I : Inv (X.suite a ((a, oe) :: pn)) [] σ H s) (q : Q c s) :
    wpAny (model X.prog X.w) (X.A.mark (some (.ref a))) (eval (.Name x np) X.env) Q E s := by
  obtain ⟨hg, hd, h | ⟨h, hv, hn⟩⟩ := hc
  · exact ld_glob (X := X.suite a ((a, oe) :: pn)) I hg h q hd
  · exact ld_blt (X := X.suite a ((a, oe) :: pn)) I hg h hv q hn hd
theorem test_one (hc : Names X x c) : TestOk X (.Name x np) (fun cls => PySem.W.exmOne X.K cls c) := fun a pn oe σ H s cls b Q E I LT hb q =>
  name_in hc I ((PySem.W.exm_one I.kIn LT hb).here (q s.heap fun _ _ z => z))
theorem test_two (h1 : Names X x1 c1) (h2 : Names X x2 c2) : TestOk X (.Tuple [.Name x1 p1, .Name x2 p2] j tp) (fun cls => PySem.W.exmAny X.K cls [c1, c2]) := fun a pn oe σ H s cls b Q E I LT hb q => by
  refine wpAny_Tuple (wpAny_items_cons (name_in h1 I (wpAny_items_cons (name_in h2 I (wpAny_items_nil ⟨by size_fits, ?_⟩)))))
  have kp : ∀ q o, s.heap.get? q = some o → (s.heap.push { cls := .type "tuple", data := .seq [c1, c2].toArray }).get? q = some o := fun _ _ z => Heap.get?_push_of_some _ z
  exact (PySem.W.exm_tup2 (I.kIn.keeps kp) (LT.keeps kp) (Heap.get?_push_size s.heap rfl) hb).here (q _ kp)
theorem test_four (h1 : Names X x1 c1) (h2 : Names X x2 c2) (h3 : Names X x3 c3) (h4 : Names X x4 c4) : TestOk X (.Tuple [.Name x1 p1, .Name x2 p2, .Name x3 p3, .Name x4 p4] j tp) (fun cls => PySem.W.exmAny X.K cls [c1, c2, c3, c4]) := fun a pn oe σ H s cls b Q E I LT hb q => by
  refine wpAny_Tuple (wpAny_items_cons (name_in h1 I (wpAny_items_cons (name_in h2 I (wpAny_items_cons (name_in h3 I (wpAny_items_cons (name_in h4 I (wpAny_items_nil ⟨by size_fits, ?_⟩)))))))))
  have kp : ∀ q o, s.heap.get? q = some o → (s.heap.push { cls := .type "tuple", data := .seq [c1, c2, c3, c4].toArray }).get? q = some o := fun _ _ z => Heap.get?_push_of_some _ z
  exact (PySem.W.exm_tup4 (I.kIn.keeps kp) (LT.keeps kp) (Heap.get?_push_size s.heap rfl) hb).here (q _ kp)
end
structure Hw where
  tst : Value → Option Bool
  sl : Option Nat
  ts : Addr → Value → Option Addr → TS
def slOff (D : Ends) : Option Nat → Ends
  | none => D
  | some i => { nx := fun σ H => D.nx (σ.set i none) H, rt := D.rt, bk := fun σ H => D.bk (σ.set i none) H, ct := fun σ H => D.ct (σ.set i none) H }
def slIn (σ : L2.St) (a : Addr) : Option Nat → L2.St
  | none => σ
  | some i => σ.set i (some (.ref a))
def wG (Wout : WX) (D : Ends) : List Hw → WX
  | [] => Wout
  | h :: r => fun cls d σ H => ∃ b, h.tst cls = some b ∧ (b = true → ∀ a, H a = none → h.ts a cls d (slOff D h.sl) (slIn σ a h.sl) H) ∧ (b = false → wG Wout D r cls d σ H)
inductive HsOk (X : Cx) : List ExceptHandler → List Hw → Prop
  | nil : HsOk X [] []
  | cons {te : Expr} {nm : Option Str} {b₀ : Stmt} {suite : List Stmt} {pos' : Pos} {hds : List ExceptHandler} {h : Hw} {l : List Hw} (ht : TestOk X te h.tst) (hnm : (nm = none ∧ h.sl = none) ∨ ∃ n i, nm = some n ∧ h.sl = some i ∧ X.N[i]? = some n ∧ X.env.kindOf n = some .local)
      (hsu : ∀ (a : Addr) (oe : Obj) (cls : Value) (d : Option Addr) (pn : List (Addr × Obj)), Zc cls d oe → (∃ vs, oe.data = .fields vs) → h.tst cls = some true → PSs (X.suite a ((a, oe) :: pn)) (b₀ :: suite) (h.ts a cls d)) (r : HsOk X hds l) :
      HsOk X (.ExceptHandler (some te) nm (b₀ :: suite) pos' :: hds) (h :: l)
section
variable {X : Cx} {body : List Stmt} {h₀ : ExceptHandler} {hds : List ExceptHandler} {l : List Hw} {pos : Pos} {tb : WX → TS} {Wout : WX}
theorem ps_try_gen (hs : X.stack = X.env :: X.outer) (hf : X.env.frame = some X.env.locals) (hN : X.N.Nodup) (tk : Takes X Wout)
    (hb : ∀ (W : WX) (pn : List (Addr × Obj)) (xe : Value → Shared → Prop), Takes (X.tr pn xe) W → PassesOwn (model X.prog X.w) X.A X.env xe → PSs (X.tr pn xe) body (tb W))
    (hh : HsOk X (h₀ :: hds) l) : PS X (.Try body (h₀ :: hds) [] [] pos) (fun D σ H => tb (wG Wout D l) D σ H) := by
  refine ⟨fun pins s σ H D I h => ?_⟩
  have ok := I.ok
  have hfr : X.A.frames = some (X.env :: X.outer) := by
    rw [ok.frames, hs]
  refine wpAny_Try_except (wpAny_mono ((hb (wG Wout D l) (X.pn ++ pins) (fun e s₁ => wpAny (model X.prog X.w) X.A (noteFrame e X.env) (fun _ s₂ => wpAny (model X.prog X.w) X.A (setFlight e none) (fun _ s₃ => wpAny (model X.prog X.w) X.A (handleBy e X.env (h₀ :: hds)) (SP X pins D) X.xe s₃) X.xe s₂) X.xe s₁)
    (fun u s' xx => ?_) PassesOwn.looking).run [] s σ H D (I.toTry _) h) (fun f s1 hsp => ?_) (fun e s1 he => he))
  · obtain ⟨a, B, sI, pinz, σz, Hz, cls, d, rfl, J', nb, up, sky, na, os, ag, w⟩ := xx
    have J : Inv X pins σz Hz sI := J'.ofTry ok
    have skz : Sky B (X.env :: X.outer) a (Zc cls d) X.env.locals s'.heap := by
      rw [← hs]
      exact sky
    show wpAny (model X.prog X.w) X.A (noteFrame (.ref a) X.env) _ _ _
    refine Sky.land Zc.steady hfr hf skz fun h3 fl3 up3 => ?_
    have upz := up.trans up3
    -- every clause, from here
    have go : ∀ (hz : List ExceptHandler) (lz : List Hw), HsOk X hz lz → wG Wout D lz cls d σz Hz → ∀ hc : Heap, HandSPX.FlyingZ B (X.env :: X.outer) a (Zc cls d) hc → sI.heap.UpToSlots hc →
        wpAny (model X.prog X.w) X.A (handleBy (.ref a) X.env hz) (SP X pins D) X.xe { s' with heap := hc } := by
      intro hz lz hk
      induction hk with
      | nil =>
        intro w hc fl upc
        refine wpAny_handleBy_nil ?_
        obtain ⟨k1, k2, k3, oe, vs, T, oT, tz, he, hz, hd, h1, hr⟩ := id fl
        unfold PySem.passOn
        refine wpAny_bind (wpAny_field he hd h1 ?_)
        rw [if_neg (by simp : ¬ ((Value.ref T == Value.none) = true))]
        have fin : wpAny (model X.prog X.w) X.A (setFlight (.ref a) X.env.frame) (fun _ s4 => wpAny (model X.prog X.w) X.A (throw (.ref a) : Sem Flow) (SP X pins D) X.xe s4) X.xe { s' with heap := hc } := by
          rw [hf]
          exact HandSPX.setFlight_upZ fl fun h4 hh4 up4 => wpAny_throw (tk _ _ ⟨a, B, sI, pins, σz, Hz, cls, d, rfl, J, nb, upc.trans up4, .inr (.inr (by rw [hs]; exact hh4)), na, os, ag, w⟩)
        first
          | exact wpAny_bind (wpAny_pure (wpAny_bind fin))
          | exact wpAny_bind fin
      | @cons te nm b₀ suite pos' hds2 hw l2 ht hnm hsu r ih =>
        intro w hc fl upc
        obtain ⟨b, hb1, hyes, hno⟩ := w
        have Jc : Inv X pins σz Hz { s' with heap := hc } := J.landed nb fl.1 upc os ag
        obtain ⟨oe3, vs3, he3, hz3, hd3⟩ := fl.there
        have nfr : a ∉ frs (X.env :: X.outer) := fun hm => by
          obtain ⟨_, o', e', hnf⟩ := fl.2.2.1.mem hm
          rw [he3] at e'
          cases e'
          exact hnf _ hd3
        have nL : a ≠ X.env.locals := fun z => nfr (List.mem_filterMap.mpr ⟨X.env, List.mem_cons_self, by rw [hf, z]⟩)
        have nF : a ∉ X.fs := fun hm => by
          obtain ⟨e, he, q⟩ := List.mem_filterMap.mp hm
          exact nfr (List.mem_filterMap.mpr ⟨e, List.mem_cons_of_mem _ he, q⟩)
        have Sc := Jc.suite he3 hd3 na nL nF
        have LT : PySem.W.Looks (model X.prog X.w) hc (typeOf (.ref a)) cls := fun A Q E s k q => wpAny_typeOf_ref (k _ _ he3) (by rw [hz3.1]; exact q)
        refine wpAny_handleBy_cons (codeAny_handlers_test ?_) (by intro q; cases q)
        refine ht a (X.pn ++ pins) oe3 σz Hz { s' with heap := hc } cls b _ _ Sc LT hb1 fun h5 k5 => ?_
        have fl5 := fly_keeps fl k5
        have up5 : sI.heap.UpToSlots h5 := upc.trans (Heap.UpToSlots.of_keeps k5)
        cases b with
        | true =>
          have hsp' : ∀ (h4 : Heap), HandSPX.HeldZ B (X.env :: X.outer) a (Zc cls d) X.env.locals h4 ∨ True := fun _ => .inr trivial
          rcases hnm with ⟨rfl, hsl⟩ | ⟨n, i, rfl, hsl, hi, hln⟩
          · refine codeAny_handlers_suite (HandSPX.lands_againZ fl5 fun h4 fl4 up4 => ?_)
            have J4 : Inv X pins σz Hz { s' with heap := h4 } := J.landed nb fl4.1 (up5.trans up4) os ag
            obtain ⟨oe4, vs4, he4, hz4, hd4⟩ := fl4.there
            have S4 := J4.suite he4 hd4 na nL nF
            have hy := hyes rfl a na
            rw [hsl] at hy
            refine wpAny_mono ((hsu a oe4 cls d (X.pn ++ pins) hz4 ⟨_, hd4⟩ hb1).run [] _ _ Hz _ S4 hy) (fun f s6 hsp => ?_) (fun _ _ z => False.elim z)
            cases f with
            | ret u =>
              obtain ⟨v6, σ6, H6, S6, r6, q6⟩ := hsp
              exact ⟨_, _, _, S6.unsuite ok, r6, q6⟩
            | next =>
              obtain ⟨σ6, H6, S6, q6⟩ := hsp
              exact ⟨_, _, S6.unsuite ok, q6⟩
            | brk =>
              obtain ⟨σ6, H6, S6, q6⟩ := hsp
              exact ⟨_, _, S6.unsuite ok, q6⟩
            | cont =>
              obtain ⟨σ6, H6, S6, q6⟩ := hsp
              exact ⟨_, _, S6.unsuite ok, q6⟩
          · refine codeAny_handlers_suite_as (HandSPX.lands_againZ fl5 fun h4 fl4 up4 => ?_)
            have J4 : Inv X pins σz Hz { s' with heap := h4 } := J.landed nb fl4.1 (up5.trans up4) os ag
            obtain ⟨oe4, vs4, he4, hz4, hd4⟩ := fl4.there
            have S4 := J4.suite he4 hd4 na nL nF
            have hy := hyes rfl a na
            rw [hsl] at hy
            refine store_ok (X := X.suite a ((a, oe4) :: (X.pn ++ pins))) (v := .ref a) S4 hN hi (.inl hln) rfl (fun s5 S5 => ?_) (.inr hln)
            refine wpAny_mono ((hsu a oe4 cls d (X.pn ++ pins) hz4 ⟨_, hd4⟩ hb1).run [] s5 _ Hz _ S5 hy) (fun f s6 hsp => ?_) (fun _ _ z => False.elim z)
            have off : ∀ {σ6 : L2.St} {H6 : Hp} {Q : Shared → Prop}, Inv (X.suite a ((a, oe4) :: (X.pn ++ pins))) [] σ6 H6 s6 → (∀ s7, Inv X pins (σ6.set i none) H6 s7 → Q s7) →
                wpAny (model X.prog X.w) X.A (do bindName X.env n .none; unbindBehindTheSuite X.env n pos') (fun _ s7 => Q s7) X.xe s6 := fun {σ6 H6 Q} S6 hq => gone_ok (S6.unsuite ok) hN hi hln hq
            cases f with
            | ret u =>
              obtain ⟨v6, σ6, H6, S6, r6, q6⟩ := hsp
              exact off S6 fun s7 J7 => ⟨_, _, _, J7, r6, q6⟩
            | next =>
              obtain ⟨σ6, H6, S6, q6⟩ := hsp
              exact off S6 fun s7 J7 => ⟨_, _, J7, q6⟩
            | brk =>
              obtain ⟨σ6, H6, S6, q6⟩ := hsp
              exact off S6 fun s7 J7 => ⟨_, _, J7, q6⟩
            | cont =>
              obtain ⟨σ6, H6, S6, q6⟩ := hsp
              exact off S6 fun s7 J7 => ⟨_, _, J7, q6⟩
        | false =>
          show wpAny _ X.A (handleBy (.ref a) X.env hds2) _ _ _
          exact ih (hno rfl) h5 fl5 up5
    exact go _ _ hh w h3 fl3 upz
  · cases f with
    | ret u =>
      obtain ⟨v, σ6, H6, J6, r, q⟩ := hsp
      exact ⟨v, σ6, H6, J6.ofTry ok, r, q⟩
    | next =>
      obtain ⟨σ6, H6, J6, q⟩ := hsp
      exact wpAny_execs_nil ⟨σ6, H6, J6.ofTry ok, q⟩
    | brk =>
      obtain ⟨σ6, H6, J6, q⟩ := hsp
      exact ⟨σ6, H6, J6.ofTry ok, q⟩
    | cont =>
      obtain ⟨σ6, H6, J6, q⟩ := hsp
      exact ⟨σ6, H6, J6.ofTry ok, q⟩
end
end MR

namespace MR
open PySem PySem.Spec PyProof.Rows L2
/-! ### try, by values -/
structure Hd where
  tst : Str → Bool
  sl : Option Nat
  f : D → SM
def hSlot (sl : Option Nat) (x : D) (env : Env) : Env := match sl with
  | none => env
  | some i => env.set i (some (.d x))
def hOff (sl : Option Nat) (env : Env) : Env := match sl with
  | none => env
  | some i => env.set i none
def hEnd (sl : Option Nat) : Option (Out × Mem) → Option (Out × Mem)
  | some (.nx env, m) => some (.nx (hOff sl env), m)
  | some (.bk env, m) => some (.bk (hOff sl env), m)
  | some (.ct env, m) => some (.ct (hOff sl env), m)
  | some (.rt x, m) => some (.rt x, m)
  | _ => none
def hRun (h : Hd) (x : D) : SM := fun env m => hEnd h.sl (h.f x (hSlot h.sl x env) m)
def hxOf (a : Addr) (d : Option Addr) (c : Str) (fs : List (Str × D)) : D := .hx a d c (fs.map (·.1)) (fs.map (·.2))
open Classical in
/-- the suite, wherever the error lies -/
noncomputable def hAll (h : Hd) (c : Str) (fs : List (Str × D)) : SM := fun env m => if ∀ a d, hRun h (hxOf a d c fs) env m = hRun h (hxOf 0 none c fs) env m then hRun h (hxOf 0 none c fs) env m else none
noncomputable def selH : List Hd → Str → List (Str × D) → SM
  | [], c, fs => fun env m => some (.rs env (.mk c fs), m)
  | h :: r, c, fs => fun env m => if h.tst c = true then hAll h c fs env m else selH r c fs env m
noncomputable def sTry (fb : SM) (hs : List Hd) : SM := fun env m => match fb env m with
  | some (.rs env1 (.mk c fs), m1) => selH hs c fs env1 m1
  | r => r
inductive HdOk (X : Cx) (G : Gm) : List ExceptHandler → List Hd → Prop
  | nil : HdOk X G [] []
  | cons {te : Expr} {nm : Option Str} {b₀ : Stmt} {suite : List Stmt} {pos' : Pos} {hds : List ExceptHandler} {h : Hd} {l : List Hd} {tw : Value → Option Bool} (ht : TestOk X te tw) (htw : ∀ c C, G.cl c = some C → tw (.ref C) = some (h.tst c))
      (hnm : (nm = none ∧ h.sl = none) ∨ ∃ n i, nm = some n ∧ h.sl = some i ∧ X.N[i]? = some n ∧ X.env.kindOf n = some .local)
      (hsu : ∀ (a : Addr) (oe : Obj) (d : Option Addr) (c : Str) (C : Addr) (ks : List Str) (ds : List D) (pn : List (Addr × Obj)), G.cl c = some C → h.tst c = true → Zc (.ref C) d oe → (∃ vs, oe.data = .fields vs) → PSs (X.suite a ((a, oe) :: pn)) (b₀ :: suite) (tS G W0 (h.f (.hx a d c ks ds))))
      (r : HdOk X G hds l) : HdOk X G (.ExceptHandler (some te) nm (b₀ :: suite) pos' :: hds) (h :: l)
theorem RpE.off {K : PySem.W.Frag} {w : Wd} {env : Env} {σ : L2.St} (h : RpE K w env σ) (i : Nat) : RpE K w (env.set i none) (σ.set i none) := by
  refine ⟨by rw [List.length_set, List.length_set, h.len], fun j y e => ?_⟩
  by_cases hj : i = j
  · subst hj
    have hl : i < env.length := by
      have := (List.getElem?_eq_some_iff.mp e).1
      rwa [List.length_set] at this
    rw [List.getElem?_set_self hl] at e
    cases e
  · rw [List.getElem?_set_ne hj] at e
    obtain ⟨u, a, b⟩ := h.at' j y e
    exact ⟨u, by rw [List.getElem?_set_ne hj]; exact a, b⟩
section
variable {X : Cx} {G : Gm} {W : WX}
def tsOf (G : Gm) (h : Hd) : Addr → Value → Option Addr → TS := fun a cls d D σ H => ∃ (c : Str) (C : Addr) (ks : List Str) (ds : List MR.D), G.cl c = some C ∧ h.tst c = true ∧ cls = .ref C ∧ tS G W0 (h.f (.hx a d c ks ds)) D σ H
theorem hds_ok {hds : List ExceptHandler} {hs : List Hd} (hh : HdOk X G hds hs) : ∃ lw, HsOk X hds lw ∧ ∀ (D : Ends) (cls : Value) (d : Option Addr) (σ : L2.St) (H : Hp) (w : Wd) (m : Mem) (env : Env) (c : Str) (fs : List (Str × MR.D)),
    Hm G.K w m H → RpE G.K w env σ → RpX G w (.mk c fs) cls d H → CoS G W D w (selH hs c fs env) m → wG W D lw cls d σ H := by
  induction hh with
  | nil => exact ⟨[], .nil, fun D cls d σ H w m env c fs hm he hx ⟨o, m', e, p⟩ => by
      cases e
      exact p w H (Wd.Le.refl w) hm σ cls d he hx⟩
  | @cons te nm b₀ suite pos' hds h l tw ht htw hnm hsu r ih =>
    obtain ⟨lw, hk, ih⟩ := ih
    refine ⟨(⟨tw, h.sl, tsOf G h⟩ : Hw) :: lw, .cons (te := te) (h := ⟨tw, h.sl, tsOf G h⟩) ht hnm (fun a oe cls d pn hz hf _ => ?_) hk, fun D cls d σ H w m env c fs hm he hx ⟨o, m', e, p⟩ => ?_⟩
    · refine ⟨fun pins s σ H Dn I hyp => ?_⟩
      obtain ⟨c, C, ks, ds, h1, h2, h3, h4⟩ := hyp
      subst h3
      exact (hsu a oe d c C ks ds pn h1 h2 hz hf).run pins s σ H Dn I h4
    · obtain ⟨C, hcl, ec, hfs⟩ := hx
      subst ec
      refine ⟨h.tst c, htw c C hcl, fun hb a na => ?_, fun hb => ?_⟩
      · have e1 : hAll h c fs env m = some (o, m') := by
          have e' : (if h.tst c = true then hAll h c fs env m else selH l c fs env m) = some (o, m') := e
          rwa [if_pos hb] at e'
        unfold hAll at e1
        split at e1
        · rename_i hall
          rw [← hall a d] at e1
          refine ⟨c, C, fs.map (·.1), fs.map (·.2), hcl, hb, rfl, w, hSlot h.sl (hxOf a d c fs) env, m, hm, ?_, ?_⟩
          · have rx : RpS G.K w (.d (hxOf a d c fs)) (.ref a) := by
              rcases hfs with ⟨rfl, rfl⟩ | ⟨dd, vs, rfl, h1, h2⟩
              · exact Rp.hx0
              · exact Rp.hx1 h1 h2
            show RpE G.K w (hSlot h.sl _ env) (slIn σ a h.sl)
            unfold hSlot slIn
            cases h.sl with
            | none => exact he
            | some i => exact he.set i rx
          · have e2 : hEnd h.sl (h.f (hxOf a d c fs) (hSlot h.sl (hxOf a d c fs) env) m) = some (o, m') := e1
            show CoS G W0 (slOff D h.sl) w _ m
            cases hin : h.f (hxOf a d c fs) (hSlot h.sl (hxOf a d c fs) env) m with
            | none =>
              rw [hin] at e2
              cases e2
            | some q =>
              obtain ⟨o1, m1⟩ := q
              rw [hin] at e2
              refine ⟨o1, m1, hin, fun w' H' l hm' => ?_⟩
              cases o1 with
              | rs env1 x => cases e2
              | rt x =>
                cases e2
                intro v hv
                have := p w' H' l hm' v hv
                unfold slOff
                cases h.sl <;> exact this
              | nx env1 =>
                cases e2
                intro σ1 h1
                unfold slOff
                unfold hOff at p
                cases hsl : h.sl with
                | none =>
                  rw [hsl] at p
                  exact p w' H' l hm' σ1 h1
                | some i =>
                  rw [hsl] at p
                  exact p w' H' l hm' _ (h1.off i)
              | bk env1 =>
                cases e2
                intro σ1 h1
                unfold slOff
                unfold hOff at p
                cases hsl : h.sl with
                | none =>
                  rw [hsl] at p
                  exact p w' H' l hm' σ1 h1
                | some i =>
                  rw [hsl] at p
                  exact p w' H' l hm' _ (h1.off i)
              | ct env1 =>
                cases e2
                intro σ1 h1
                unfold slOff
                unfold hOff at p
                cases hsl : h.sl with
                | none =>
                  rw [hsl] at p
                  exact p w' H' l hm' σ1 h1
                | some i =>
                  rw [hsl] at p
                  exact p w' H' l hm' _ (h1.off i)
        · cases e1
      · refine ih D _ d σ H w m env c fs hm he ⟨C, hcl, rfl, hfs⟩ ⟨o, m', ?_, p⟩
        have e' : (if h.tst c = true then hAll h c fs env m else selH l c fs env m) = some (o, m') := e
        rwa [if_neg (by rw [hb]; exact Bool.false_ne_true)] at e'
theorem is_try {body : List Stmt} {h₀ : ExceptHandler} {hds : List ExceptHandler} {hl : List Hd} {fb : SM} {pos : Pos} (hN : X.N.Nodup) (tk : Takes X W)
    (hb : ∀ (W' : WX) (pn : List (Addr × Obj)) (xe : Value → Shared → Prop), Takes (X.tr pn xe) W' → PassesOwn (model X.prog X.w) X.A X.env xe → PSs (X.tr pn xe) body (tS G W' fb)) (hh : HdOk X G (h₀ :: hds) hl)
    (hs : X.stack = X.env :: X.outer := by rfl) (hf : X.env.frame = some X.env.locals := by rfl) : PS X (.Try body (h₀ :: hds) [] [] pos) (tS G W (sTry fb hl)) := by
  obtain ⟨lw, hk, hw⟩ := hds_ok (W := W) hh
  refine (ps_try_gen (tb := fun W' => tS G W' fb) hs hf hN tk hb hk).imp fun D σ H ⟨w, env, m, hm, he, o, m', e, p⟩ => ?_
  unfold sTry at e
  cases h1 : fb env m with
  | none =>
    rw [h1] at e
    cases e
  | some q =>
    obtain ⟨o1, m1⟩ := q
    rw [h1] at e
    refine ⟨w, env, m, hm, he, o1, m1, h1, ?_⟩
    cases o1 with
    | rs env1 x =>
      obtain ⟨c, fs⟩ := x
      exact fun w' H' l hm' σ' cls d he' hx => hw D cls d σ' H' w' m1 env1 c fs hm' he' hx ⟨o, m', e, p.at' l⟩
    | nx env1 =>
      cases e
      exact p
    | bk env1 =>
      cases e
      exact p
    | ct env1 =>
      cases e
      exact p
    | rt x =>
      cases e
      exact p
/-! ### the classes -/
def kin (c d : Str) : Bool := c == d || d == "RowsError"
structure Ek (K : PySem.W.Frag) (mg : Str → Option Value) (G : Gm) (fld : Str → Option Str) : Prop where
  mgc : ∀ c C, G.cl c = some C → mg c = some (.ref C)
  exm : ∀ c C d D, G.cl c = some C → G.cl d = some D → PySem.W.exmOne K (.ref C) (.ref D) = some (kin c d)
  kit : ∀ c C d D, G.cl c = some C → G.cl d = some D → PySem.W.kitOne K (.ref C) (.ref D) = some (kin c d)
  kitV : ∀ c C, G.cl c = some C → PySem.W.kitOne K (.ref C) (.type "ValueError") = some true
  ec : ∀ c C, G.cl c = some C → ExcC K C
  no : ∀ c C n, G.cl c = some C → fld c = some n → PySem.W.findIn K (.ref C) n = some none
variable {fld : Str → Option Str} {d1 d2 d3 d4 : Str} {np p1 p2 p3 p4 tp : Pos} {j : Nat}
theorem Ek.names (E : Ek X.K X.mg G fld) {d : Str} {D : Addr} (h : G.cl d = some D) (hg : Gl X d) (hd : (d == ("__debug__" : Str)) = false) : Names X d (.ref D) := ⟨hg, hd, .inl (E.mgc d D h)⟩
/-- except d -/
theorem hd_1 {D : Addr} (E : Ek X.K X.mg G fld) (h1 : G.cl d1 = some D) (g1 : Gl X d1) (b1 : (d1 == ("__debug__" : Str)) = false := by decide) :
    TestOk X (.Name d1 np) (fun cls => PySem.W.exmOne X.K cls (.ref D)) ∧ ∀ c C, G.cl c = some C → PySem.W.exmOne X.K (.ref C) (.ref D) = some (kin c d1) := ⟨test_one (E.names h1 g1 b1), fun c C h => E.exm c C d1 D h h1⟩
theorem exmAny_c {K : PySem.W.Frag} {cls c : Value} {r : List Value} {a b : Bool} (h : PySem.W.exmOne K cls c = some a) (hr : PySem.W.exmAny K cls r = some b) : PySem.W.exmAny K cls (c :: r) = some (a || b) := by
  unfold PySem.W.exmAny
  rw [h, hr]
theorem hd_2 {D1 D2 : Addr} (E : Ek X.K X.mg G fld) (h1 : G.cl d1 = some D1) (h2 : G.cl d2 = some D2) (g1 : Gl X d1) (g2 : Gl X d2) (b1 : (d1 == ("__debug__" : Str)) = false := by decide) (b2 : (d2 == ("__debug__" : Str)) = false := by decide) :
    TestOk X (.Tuple [.Name d1 p1, .Name d2 p2] j tp) (fun cls => PySem.W.exmAny X.K cls [.ref D1, .ref D2]) ∧ ∀ c C, G.cl c = some C → PySem.W.exmAny X.K (.ref C) [.ref D1, .ref D2] = some (kin c d1 || (kin c d2 || false)) :=
  ⟨test_two (E.names h1 g1 b1) (E.names h2 g2 b2), fun c C h => exmAny_c (E.exm c C d1 D1 h h1) (exmAny_c (E.exm c C d2 D2 h h2) rfl)⟩
theorem hd_4 {D1 D2 D3 D4 : Addr} (E : Ek X.K X.mg G fld) (h1 : G.cl d1 = some D1) (h2 : G.cl d2 = some D2) (h3 : G.cl d3 = some D3) (h4 : G.cl d4 = some D4) (g1 : Gl X d1) (g2 : Gl X d2) (g3 : Gl X d3) (g4 : Gl X d4)
    (b1 : (d1 == ("__debug__" : Str)) = false := by decide) (b2 : (d2 == ("__debug__" : Str)) = false := by decide) (b3 : (d3 == ("__debug__" : Str)) = false := by decide) (b4 : (d4 == ("__debug__" : Str)) = false := by decide) :
    TestOk X (.Tuple [.Name d1 p1, .Name d2 p2, .Name d3 p3, .Name d4 p4] j tp) (fun cls => PySem.W.exmAny X.K cls [.ref D1, .ref D2, .ref D3, .ref D4]) ∧
      ∀ c C, G.cl c = some C → PySem.W.exmAny X.K (.ref C) [.ref D1, .ref D2, .ref D3, .ref D4] = some (kin c d1 || (kin c d2 || (kin c d3 || (kin c d4 || false)))) :=
  ⟨test_four (E.names h1 g1 b1) (E.names h2 g2 b2) (E.names h3 g3 b3) (E.names h4 g4 b4), fun c C h => exmAny_c (E.exm c C d1 D1 h h1) (exmAny_c (E.exm c C d2 D2 h h2) (exmAny_c (E.exm c C d3 D3 h h3) (exmAny_c (E.exm c C d4 D4 h h4) rfl)))⟩
/-! ### in a suite: e.f, isinstance(e, C) -/
variable {a C : Addr} {oe : Obj} {d : Option Addr} {pn : List (Addr × Obj)} {e t : Expr} {n : Str} {fa : Env → M Sv} {fs : Env → M (List Sv)} {pos p : Pos}
def gFld (a : Addr) (d : Option Addr) (n : Str) : Sv → M Sv
  | .d (.hx a' d' _ ks ds) => if a' = a ∧ d' = d then (match fldOf n ks ds with
    | some x => M.ok (.d x)
    | none => M.no) else M.no
  | _ => M.no
theorem ie_fld (hK : G.K = X.K) (ec : ExcC X.K C) (hno : PySem.W.findIn X.K (.ref C) n = some none) (hz : Zc (.ref C) d oe) (hf : ∃ vs, oe.data = .fields vs) (he : PE (X.suite a ((a, oe) :: pn)) e (tI G W fa)) (hb : attributeBase e n X.env (eval e X.env) = eval e X.env := by rfl) :
    PE (X.suite a ((a, oe) :: pn)) (.Attribute e n pos) (tI G W (fun env => (fa env).bd (gFld a d n))) := by
  refine (pe_xf ⟨ec.hg, ec.hk, ec.hs, ec.hd⟩ hno hz hf he hb).imp fun σ H Q ⟨w, env, m, hm, hE, c⟩ => ⟨w, env, m, hm, hE, bdEE c fun w1 m1 H1 x v l1 hm1 hx c1 => ?_⟩
  cases x with
  | r k => exact c1.no.elim
  | d x =>
    cases x with
    | hx a' d' c' ks ds =>
      have c2 : CoE G W σ Q w1 (if a' = a ∧ d' = d then (match fldOf n ks ds with
        | some x => M.ok (.d x)
        | none => M.no) else M.no) m1 := c1
      split at c2
      · rename_i hh
        obtain ⟨rfl, rfl⟩ := hh
        split at c2
        · rename_i y hy
          have hx' : Rp G.K w1.I v (.hx a' d' c' ks ds) := hx
          cases hx' with
          | hx0 => cases hy
          | hx1 h1 h2 =>
            obtain ⟨u, hu, ru⟩ := RpA.fld h2 hy
            exact ⟨rfl, rfl, _, _, u, rfl, (hm1.exI.trans hm1.exF) _ _ h1, hu, c2.ret hm1 ru⟩
        · exact c2.no.elim
      · exact c2.no.elim
    | _ => exact c1.no.elim
theorem call_isx (ec : ExcC X.K C) (hz : Zc (.ref C) d oe) (hf : ∃ vs, oe.data = .fields vs) : CallR (X.suite a ((a, oe) :: pn)) (.builtin "isinstance") (fun xs H Q => ∃ (cv : V) (cu : Value) (b : Bool), xs = [.ref a, cv] ∧ (∀ u, RelV cv u → u = cu) ∧ PySem.W.kitOne X.K (.ref C) cu = some b ∧
    (d = none ∨ ∃ (dd : Addr) (gs : List (Str × V)), d = some dd ∧ H dd = some (.xd gs)) ∧ Q (.bl b) H) := by
  intro pins s σ H xs us Q I r h
  obtain ⟨cv, cu, b, rfl, hcv, hk, hd, q⟩ := h
  cases r with
  | cons rx rr =>
    cases rr with
    | cons rt rr =>
      cases rr
      cases rx
      have eu := hcv _ rt
      subst eu
      obtain ⟨hget, _⟩ := I.pin (a, oe) (List.mem_append.mpr (.inl List.mem_cons_self))
      obtain ⟨vs, hv⟩ := hf
      have J : ∃ od, PySem.W.InstAt s.heap a oe C od := by
        rcases hd with rfl | ⟨dd, gs, rfl, hx⟩
        · exact ⟨none, hget, hz.1, by unfold PySem.W.notCls; rw [hv] <;> rfl, by rw [hz.2]; trivial⟩
        · have hx' : ObjOk X.prog X.w H s.heap dd (.xd gs) := I.hok dd _ hx
          obtain ⟨mA, hns, _⟩ := hx'
          obtain ⟨od, ho, _⟩ := lookIn_ns hns
          exact ⟨some od, hget, hz.1, by unfold PySem.W.notCls; rw [hv] <;> rfl, by rw [hz.2]; exact ho⟩
      obtain ⟨od, J⟩ := J
      have hcl : (PySem.W.clsIn X.K C).isSome = true := by
        have h0 := ec.hd
        unfold PySem.W.hasDictIn at h0
        cases hc : PySem.W.clsIn X.K C with
        | none =>
          rw [hc] at h0
          cases h0
        | some cd => rfl
      exact PySem.W.kia_one (PySem.W.kitx_exc hcl ec.hg ec.hk ec.hs ec.ha ec.hn ec.ht ec.hm) I.kIn J hk (fun z => nomatch z) fun tk => ⟨.bl b, H, I.kept (t' := tk) fun _ _ z => z, rfl, q⟩
def gIsx (a : Addr) (d : Option Addr) (cv : V) (b : Bool) : List Sv → M Sv
  | [.d (.hx a' d' _ _ _), .d (.raw v)] => if a' = a ∧ d' = d ∧ v = cv then M.ok (.d (.bl b)) else M.no
  | _ => M.no
theorem ie_isx {cv : V} {cu : Value} {b : Bool} (ec : ExcC X.K C) (hz : Zc (.ref C) d oe) (hf : ∃ vs, oe.data = .fields vs) (hcv : ∀ u, RelV cv u → u = cu) (hk : PySem.W.kitOne X.K (.ref C) cu = some b) (hg : Gl X "isinstance") (hm : X.mg "isinstance" = none)
    (ha : PA (X.suite a ((a, oe) :: pn)) [e, t] (tA G W fs)) (he : starEach [e, t] X.env = (false, eval e X.env) :: starEach [t] X.env := by rfl) (hpl : (backTo pos (starEach [t] X.env)).any (·.1) = false := by rfl) :
    PE (X.suite a ((a, oe) :: pn)) (.Call (.Name "isinstance" p) [e, t] [] pos) (tI G W (fL (gIsx a d cv b) fs)) := by
  refine (pe_callB (X := X.suite a ((a, oe) :: pn)) (call_isx ec hz hf) hg hm (by first | rfl | boot_by_name) ha (by decide) (by decide) he hpl).imp fun σ H Q ⟨w, env, m, hm, hE, c⟩ => ⟨w, env, m, hm, hE, bdAE c fun w1 m1 H1 xs vs l1 hm1 hx c1 => ?_⟩
  unfold gIsx at c1
  split at c1
  · rename_i a' d' c' ks ds v
    split at c1
    · rename_i hh
      obtain ⟨rfl, rfl, rfl⟩ := hh
      cases hx with
      | cons h1 h2 =>
        cases h2 with
        | cons h2 h3 =>
          cases h3
          have h1' : Rp G.K w1.I _ (.hx a' d' c' ks ds) := h1
          have h2' : Rp G.K w1.I _ (.raw v) := h2
          cases h2'
          cases h1' with
          | hx0 => exact ⟨v, cu, b, rfl, hcv, hk, .inl rfl, c1.ret hm1 (.bl b)⟩
          | hx1 z1 z2 => exact ⟨v, cu, b, rfl, hcv, hk, .inr ⟨_, _, rfl, (hm1.exI.trans hm1.exF) _ _ z1⟩, c1.ret hm1 (.bl b)⟩
    · exact c1.no.elim
  · exact c1.no.elim
/-- a clause; f knows where the error lies -/
def mkHd (tst : Str → Bool) (sl : Option Nat) (f : Addr → Option Addr → Str → SM) : Hd := ⟨tst, sl, fun x => match x with
  | .hx a d c _ _ => f a d c
  | _ => fun _ _ => none⟩
theorem hdk {te : Expr} {nm : Option Str} {b₀ : Stmt} {suite : List Stmt} {pos' : Pos} {hds : List ExceptHandler} {l : List Hd} {tw : Value → Option Bool} {tst : Str → Bool} {sl : Option Nat} {f : Addr → Option Addr → Str → SM}
    (ht : TestOk X te tw ∧ ∀ c C, G.cl c = some C → tw (.ref C) = some (tst c)) (hnm : (nm = none ∧ sl = none) ∨ ∃ n i, nm = some n ∧ sl = some i ∧ X.N[i]? = some n ∧ X.env.kindOf n = some .local)
    (hsu : ∀ (a : Addr) (oe : Obj) (d : Option Addr) (c : Str) (C : Addr) (pn : List (Addr × Obj)), G.cl c = some C → tst c = true → Zc (.ref C) d oe → (∃ vs, oe.data = .fields vs) → PSs (X.suite a ((a, oe) :: pn)) (b₀ :: suite) (tS G W0 (f a d c)))
    (r : HdOk X G hds l) : HdOk X G (.ExceptHandler (some te) nm (b₀ :: suite) pos' :: hds) (mkHd tst sl f :: l) :=
  .cons (h := mkHd tst sl f) ht.1 ht.2 hnm (fun a oe d c C ks ds pn h1 h2 h3 h4 => hsu a oe d c C pn h1 h2 h3 h4) r
end
end MR

namespace MR
open PySem PySem.Spec PyProof.Rows L2
/-! ### dicts written out, and their get -/
def keyOf : Sv → Option Key
  | .d (.int i) => some (.inl i)
  | .d (.str s) => some (.inr s)
  | _ => none
def dkGet : List Key → List D → Key → Option D
  | a :: ks, d :: ds, k => if a = k then some d else dkGet ks ds k
  | _, _, _ => none
theorem keyOf_v {K : PySem.W.Frag} {w : Wd} {x : Sv} {v : V} {k : Key} (h : RpS K w x v) (e : keyOf x = some k) : v = kV k := by
  cases x with
  | r j => cases e
  | d x =>
    cases x with
    | int i =>
      cases e
      have h' : Rp K w.I v (.int i) := h
      cases h'
      rfl
    | str s =>
      cases e
      have h' : Rp K w.I v (.str s) := h
      cases h'
      rfl
    | _ => cases e
theorem dk_some {K : PySem.W.Frag} {I : Hp} {k : Key} {d : D} : ∀ {ks : List Key} {vs : List V} {ds : List D}, RpA K I vs ds → dkGet ks ds k = some d → ∃ v, valV (ks.zip vs) k = some v ∧ Rp K I v d
  | [], _, _, _, e => by
    unfold dkGet at e
    cases e
  | _ :: _, _, _, .nil, e => by
    unfold dkGet at e
    cases e
  | a :: ks, _, _, .cons (v := v) (vs := vs) h1 h2, e => by
    unfold dkGet at e
    split at e
    · rename_i ha
      cases e
      exact ⟨v, valV_pos (p := (a, v)) ha, h1⟩
    · rename_i ha
      obtain ⟨u, h3, h4⟩ := dk_some h2 e
      exact ⟨u, (valV_neg (p := (a, v)) ha).trans h3, h4⟩
theorem dk_none {K : PySem.W.Frag} {I : Hp} {k : Key} : ∀ (ks : List Key) (vs : List V) (ds : List D), ks.length = vs.length → RpA K I vs ds → dkGet ks ds k = none → valV (ks.zip vs) k = none
  | [], _, _, _, _, e => rfl
  | a :: ks, vs, ds, hl, h, e => by
    cases h with
    | nil => cases hl
    | @cons v vs d ds h1 h2 =>
      unfold dkGet at e
      split at e
      · cases e
      · rename_i ha
        exact (valV_neg (p := (a, v)) ha).trans (dk_none ks vs ds (by simpa using hl) h2 e)
theorem merge_nd : ∀ {more kvs : List (Key × V)}, ((kvs ++ more).map (·.1)).Nodup → mergeK kvs more = kvs ++ more
  | [], kvs, _ => (List.append_nil kvs).symm
  | p :: r, kvs, h => by
    have e : putK kvs p.1 p.2 = kvs ++ [p] := by
      unfold putK
      rw [if_neg]
      intro hany
      obtain ⟨q, hq, hd⟩ := List.any_eq_true.mp hany
      have hqp : q.1 = p.1 := by simpa using hd
      rw [List.map_append, List.nodup_append] at h
      exact h.2.2 q.1 (List.mem_map_of_mem hq) p.1 (by simp) hqp
    show mergeK (putK kvs p.1 p.2) r = _
    rw [e, merge_nd (by simpa using h), List.append_assoc]
    rfl
section
variable {X : Cx} {G : Gm} {W : WX}
abbrev Pr := Env → M (List (Key × D))
/-- the pairs of a display -/
def tPr (G : Gm) (W : WX) (fp : Pr) (σ : L2.St) (H : Hp) (Q : List (V × V) → Hp → Prop) : Prop := ∃ w env m, Hm G.K w m H ∧ RpE G.K w env σ ∧ ∃ r m', fp env m = some (r, m') ∧ ∀ w' H', Wd.Le w w' → Hm G.K w' m' H' → match r with
  | .ok kds => ∀ vs, RpA G.K w'.I vs (kds.map (·.2)) → Q (((kds.map (·.1)).map kV).zip vs) H'
  | .error e => ∀ cls d, RpX G w' e cls d H' → W cls d σ H'
def PD (X : Cx) (G : Gm) (W : WX) (pos : Pos) (ks : List (Option Expr)) (vs : List Expr) (fp : Pr) : Prop := ∃ trs, PPs X pos ks vs trs ∧ ∀ σ H Q, tPr G W fp σ H Q → tPairs trs σ H Q
def pNil : Pr := fun _ => M.ok []
def pCons (fk fv : Env → M Sv) (r : Pr) : Pr := fun env => (fk env).bd fun x m1 => match keyOf x with
  | none => none
  | some k => ((fv env).bd fun y => (toD y).bd fun d => (r env).bd fun l => M.ok ((k, d) :: l)) m1
variable {pos : Pos} {ks : List (Option Expr)} {vs : List Expr} {fp : Pr} {ke ve : Expr} {fk fv fo fd : Env → M Sv}
theorem ipp_nil : PD X G W pos [] [] pNil := ⟨[], pps_nil, fun σ H Q ⟨w, env, m, hm, he, r, m', e, p⟩ => by
  cases e
  exact p w H (Wd.Le.refl w) hm [] .nil⟩
theorem ipp_cons (hk : PE X ke (tI G W fk)) (hv : PE X ve (tI G W fv)) (hr : PD X G W pos ks vs fp) : PD X G W pos (some ke :: ks) (ve :: vs) (pCons fk fv fp) := by
  obtain ⟨trs, h1, h2⟩ := hr
  refine ⟨_, pps_cons hk hv h1, fun σ H Q ⟨w, env, m, hm, he, r, m', e, p⟩ => ?_⟩
  unfold pCons M.bd at e
  cases e1 : fk env m with
  | none =>
    rw [e1] at e
    cases e
  | some q1 =>
    obtain ⟨r1, m1⟩ := q1
    rw [e1] at e
    refine ⟨w, env, m, hm, he, r1, m1, e1, fun w1 H1 l1 hm1 => ?_⟩
    cases r1 with
    | error z =>
      cases e
      exact fun cls d q => p w1 H1 l1 hm1 cls d q
    | ok x =>
      intro xv hx
      dsimp only at e
      cases hk : keyOf x with
      | none =>
        rw [hk] at e
        cases e
      | some k =>
        rw [hk] at e
        dsimp only at e
        cases e2 : fv env m1 with
        | none =>
          rw [e2] at e
          cases e
        | some q2 =>
          obtain ⟨r2, m2⟩ := q2
          rw [e2] at e
          refine ⟨w1, env, m1, hm1, he.mono l1, r2, m2, e2, fun w2 H2 l2 hm2 => ?_⟩
          cases r2 with
          | error z =>
            cases e
            exact fun cls d q => p w2 H2 (l1.trans l2) hm2 cls d q
          | ok y =>
            intro yv hy
            dsimp only at e
            rcases vD hm2 hy with ⟨dd, m3, w3, e3, l3, h3, r3⟩ | n
            · rw [e3] at e
              dsimp only at e
              cases e4 : fp env m3 with
              | none =>
                rw [e4] at e
                cases e
              | some q4 =>
                obtain ⟨r4, m4⟩ := q4
                rw [e4] at e
                refine h2 _ _ _ ⟨w3, env, m3, h3, he.mono (l1.trans (l2.trans l3)), r4, m4, e4, fun w4 H4 l4 hm4 => ?_⟩
                cases r4 with
                | error z =>
                  cases e
                  exact fun cls d q => p w4 H4 (l1.trans (l2.trans (l3.trans l4))) hm4 cls d q
                | ok l =>
                  cases e
                  intro us hu
                  have := p w4 H4 (l1.trans (l2.trans (l3.trans l4))) hm4 (yv :: us) (.cons (r3.mono l4.I) hu)
                  rw [keyOf_v (hx.mono (l2.trans (l3.trans l4))) hk]
                  exact this
            · rw [n] at e
              cases e
def fDisp (fp : Pr) : Env → M Sv := fun env => (fp env).bd fun kds => M.if ((kds.map (·.1)).Nodup ∧ kds.length ≤ 15) (M.ok (.d (.dk (kds.map (·.1)) (kds.map (·.2)))))
theorem zip_map {ks : List Key} {vs : List V} : (ks.map kV).zip vs = (ks.zip vs).map fun kv => (kV kv.1, kv.2) := by
  induction ks generalizing vs with
  | nil => rfl
  | cons k ks ih =>
    cases vs with
    | nil => rfl
    | cons v vs =>
      show (kV k, v) :: (ks.map kV).zip vs = (kV k, v) :: (ks.zip vs).map _
      rw [ih]
theorem map_zip1 {ks : List Key} {vs : List V} (h : ks.length = vs.length) : (ks.zip vs).map (·.1) = ks := by
  induction ks generalizing vs with
  | nil => rfl
  | cons k ks ih =>
    cases vs with
    | nil => cases h
    | cons v vs =>
      show k :: (ks.zip vs).map (·.1) = _
      rw [ih (by simpa using h)]
/-- {k: v, ..} that nothing changes any more -/
theorem ie_disp (h : PD X G W pos ks vs fp) (hall : ks.all (·.isSome) = true) (hl : ks.length = vs.length) (h0 : ks ≠ []) (h15 : ks.length ≤ 15) : PE X (.Dict ks vs pos) (tI G W (fDisp fp)) := by
  obtain ⟨trs, h1, h2⟩ := h
  refine (pe_disp h1 hall hl h0 h15).imp fun σ H Q ⟨w, env, m, hm, he, r, m', e, p⟩ => ?_
  intro a ha
  have hFa : w.F a = none := hm.exF.back ha
  have hm1 : Hm G.K w m (upd H a (.dK [])) := ⟨hm.exI, hm.exF.trans (Ex.new ha), hm.len, fun k x u ex eu => by
    cases hf : isFz u with
    | true => exact RpM.fz (Ex.refl _) hf (hm.obj k x u ex eu)
    | false => exact RpM.upd (Ex.refl _) (hm.notφ ha k x u ex eu hf) (hm.obj k x u ex eu), hm.own, hm.inj⟩
  obtain ⟨hg, lg⟩ := hm1.grd hFa upd_same (fun k x u ex eu hf => hm.notφ ha k x u ex eu hf)
  have hIg : (w.grd a (.dK [])).I a = none := hm1.exI.back hFa
  have hFg : (w.grd a (.dK [])).F a = some (.dK []) := upd_same
  unfold fDisp M.bd at e
  cases e1 : fp env m with
  | none =>
    rw [e1] at e
    cases e
  | some q1 =>
    obtain ⟨r1, m1⟩ := q1
    rw [e1] at e
    refine h2 _ _ _ ⟨_, env, m, hg, he.mono lg, r1, m1, e1, fun w1 H1 l1 hm1 => ?_⟩
    cases r1 with
    | error z =>
      cases e
      exact fun cls d q => p w1 H1 (lg.trans l1) hm1 cls d q
    | ok kds =>
      intro us hu
      have e' : (M.if ((kds.map (·.1)).Nodup ∧ kds.length ≤ 15) (M.ok (.d (.dk (kds.map (·.1)) (kds.map (·.2)))))) m1 = some (r, m') := e
      unfold M.if at e'
      split at e'
      · rename_i hc
        cases e'
        have hF1 : w1.F a = some (.dK []) := l1.F _ _ hFg
        have hI1 : w1.I a = none := l1.no _ _ hFg hIg
        have hlen : (kds.map (·.1)).length = us.length := by
          have := hu.length
          simpa using this.symm
        have hz1 := map_zip1 hlen
        refine ⟨hm1.exF _ _ hF1, (kds.map (·.1)).zip us, zip_map, ?_, ?_⟩
        · rw [List.length_zip, List.length_map]
          exact Nat.le_trans (Nat.min_le_left _ _) hc.2
        · rw [merge_nd (kvs := []) (by rw [List.nil_append, hz1]; exact hc.1), List.nil_append]
          have hlv : ∀ (k : Nat) (x : Addr) (u : Mo), w1.φ[k]? = some x → m'[k]? = some u → isFz u = false → x ≠ a := fun k x u ex eu hf z => by
            have := hm1.own k x u ex eu hf
            rw [z, hF1] at this
            cases this
          have h0 : Hm G.K (w1.ung a) m' (fun x => if x = a then none else H1 x) := ⟨fun x u ex => by
              show (if x = a then none else w1.F x) = some u
              rw [if_neg (ne_of_none ex hI1)]
              exact hm1.exI x u ex, fun x u ex => by
              have ex' : (if x = a then none else w1.F x) = some u := ex
              show (if x = a then none else H1 x) = some u
              split at ex'
              · cases ex'
              · rename_i hx
                rw [if_neg hx]
                exact hm1.exF x u ex', hm1.len, fun k x u ex eu => by
              cases hf : isFz u with
              | true => exact RpM.fz (Ex.refl _) hf (hm1.obj k x u ex eu)
              | false => exact RpM.tr (Ex.refl _) (fun y hy => by
                  show (if x = a then none else H1 x) = some y
                  rw [if_neg (hlv k x u ex eu hf)]
                  exact hy) (hm1.obj k x u ex eu), fun k x u ex eu hf => by
              show (if x = a then none else w1.F x) = none
              rw [if_neg (hlv k x u ex eu hf)]
              exact hm1.own k x u ex eu hf, hm1.inj⟩
          have hp : (fun x => if x = a then none else H1 x) a = none := if_pos rfl
          have l5 := Wd.imm_le h0 (.dK ((kds.map (·.1)).zip us)) hp
          have h5 := h0.imm (.dK ((kds.map (·.1)).zip us)) hp
          have eH : upd (fun x => if x = a then none else H1 x) a (.dK ((kds.map (·.1)).zip us)) = upd H1 a (.dK ((kds.map (·.1)).zip us)) := by
            funext b
            by_cases hb : b = a
            · rw [hb, upd_same, upd_same]
            · rw [upd_ne hb, upd_ne hb, if_neg hb]
          rw [eH] at h5
          have lw : Wd.Le w (w1.ung a) := ⟨(lg.trans l1).φ, (lg.trans l1).I, fun x u ex => by
            show (if x = a then none else w1.F x) = some u
            rw [if_neg (ne_of_none ex hFa)]
            exact (lg.trans l1).F x u ex, (lg.trans l1).no⟩
          exact p _ _ (lw.trans l5) h5 (.ref a) (Rp.dk upd_same hlen (hu.mono l5.I))
      · cases e'
def asDk : Sv → M (List Key × List D)
  | .d (.dk ks ds) => M.ok (ks, ds)
  | _ => M.no
def gGet2 (p : List Key × List D) (y z : Sv) : M Sv := match keyOf y with
  | none => M.no
  | some k => (match dkGet p.1 p.2 k with
    | some d => M.ok (.d d)
    | none => M.ok z)
def fGet2 (fo fk fd : Env → M Sv) : Env → M Sv := fun env => (fo env).bd fun x => (asDk x).bd fun p => (fk env).bd fun y => (fd env).bd fun z => gGet2 p y z
theorem ie_get2 {o e f : Expr} {apos cpos : Pos} (hu : X.A.units + 64 < cLine) (ho : PE X o (tI G W fo)) (he : PE X e (tI G W fk)) (hf : PE X f (tI G W fd)) (m2 : M2 X o "get" apos e f cpos) : PE X (.Call (.Attribute o "get" apos) [e, f] [] cpos) (tI G W (fGet2 fo fk fd)) := by
  refine (pe_dget2 (Nat.lt_of_le_of_lt (Nat.add_le_add_left (by decide : 1 ≤ 64) _) hu) ho he hf m2).imp fun σ H Q ⟨w, env, m, hm, hE, c⟩ => ⟨w, env, m, hm, hE, bdEE c fun w1 m1 H1 x v l1 hm1 hx c1 => ?_⟩
  cases x with
  | r k => exact (c1.none' rfl).elim
  | d x =>
    cases x with
    | dk ks ds =>
      have hx' : Rp G.K w1.I v (.dk ks ds) := hx
      cases hx' with
      | dk h1 h2 h3 =>
        rename_i a xs
        refine ⟨a, rfl, .inl ⟨_, .inl ((hm1.exI.trans hm1.exF) _ _ h1)⟩, ?_⟩
        have c2 : CoE G W σ Q w1 ((fk env).bd fun y => (fd env).bd fun z => gGet2 (ks, ds) y z) m1 := c1
        refine ⟨w1, env, m1, hm1, hE.mono l1, bdEE c2 fun w2 m2 H2 y yv l2 hm2 hy c3 => ⟨w2, env, m2, hm2, hE.mono (l1.trans l2), bdEE c3 fun w3 m3 H3 z zv l3 hm3 hz c4 => ?_⟩⟩
        unfold gGet2 at c4
        split at c4
        · exact c4.no.elim
        · rename_i k hk
          have hI3 : H3 a = some (.dK (ks.zip xs)) := (hm3.exI.trans hm3.exF) _ _ ((l2.trans l3).I _ _ h1)
          refine ⟨valV (ks.zip xs) k, .inl ⟨_, k, .inl hI3, keyOf_v hy hk, rfl⟩, ?_⟩
          split at c4
          · rename_i d hd
            obtain ⟨u, hu, ru⟩ := dk_some h3 hd
            rw [hu]
            exact c4.ret hm3 (Rp.mono (l2.trans l3).I ru)
          · rename_i hn
            rw [dk_none _ _ _ h2 h3 hn]
            exact c4.ret hm3 hz
    | _ => exact (c1.none' rfl).elim
end
end MR

namespace MR
open PySem PySem.Spec PyProof.Rows L2
/-! ### a root class and the classes under it -/
abbrev veT : List Value := [.type "ValueError", .type "Exception", .type "BaseException", .type "object"]
def bmOf (C0 : Addr) (c : Str) : List Value := if c = "RowsError" then veT else .ref C0 :: veT
structure Cf (K : PySem.W.Frag) (mg : Str → Option Value) (C0 : Addr) (fld : Str → Option Str) (c : Str) (C : Addr) : Prop where
  mgc : mg c = some (.ref C)
  cls : ∃ nm q N bs sn sub ab col dd k0 k1 k2 k3 k5, K.lookup C = some (excClassObj nm q C N bs (bmOf C0 c) true sn sub ab col dd k0 k1 k2 k3 k5 "ValueError.__new__")
  ga : PySem.W.findIn K (.ref C) "__getattribute__" = some (some (.builtin "BaseException.__getattribute__"))
  gg : PySem.W.findIn K (.ref C) "__getattr__" = some none
  ha : PySem.W.findIn K (.ref C) "__class__" = some (some (.builtin "object.__class__"))
  no : ∀ n, fld c = some n → PySem.W.findIn K (.ref C) n = some none
section
variable {K : PySem.W.Frag} {mg : Str → Option Value} {C0 C : Addr} {fld : Str → Option Str} {c : Str}
theorem Cf.clsD (h : Cf K mg C0 fld c C) : ∃ cd, PySem.W.clsIn K C = some cd ∧ cd.mro = .ref C :: bmOf C0 c ∧ cd.hasDict = true := by
  obtain ⟨nm, q, N, bs, sn, sub, ab, col, dd, k0, k1, k2, k3, k5, e⟩ := h.cls
  refine ⟨{ name := nm, bases := bs, mro := .ref C :: bmOf C0 c, ns := N, qualname := q, hasDict := true, slotNames := sn, subclasses := sub, abstract := ab, collection := col, hasDel := false }, ?_, rfl, rfl⟩
  unfold PySem.W.clsIn
  rw [e]
theorem Cf.mroI (h : Cf K mg C0 fld c C) (v : Value) : PySem.W.mroIn K C v = some ((Value.ref C :: bmOf C0 c).contains v) := by
  obtain ⟨cd, e1, e2, _⟩ := h.clsD
  unfold PySem.W.mroIn
  rw [e1, Option.bind_some, e2]
  rfl
theorem Cf.subI (h : Cf K mg C0 fld c C) (v : Value) : PySem.W.subIn K (.ref C) v = some ((Value.ref C :: bmOf C0 c).contains v) := h.mroI v
theorem bm_ty (T : String) : (Value.ref C :: bmOf C0 c).contains (.type T) = veT.contains (.type T) := by
  unfold bmOf
  split
  · rfl
  · rfl
theorem Cf.sb (h : Cf K mg C0 fld c C) : PySem.W.subIn K (.ref C) (.type "BaseException") = some true := by
  rw [h.subI, bm_ty]
  rfl
theorem Cf.hd (h : Cf K mg C0 fld c C) : PySem.W.hasDictIn K C = true := by
  obtain ⟨cd, e1, _, e2⟩ := h.clsD
  unfold PySem.W.hasDictIn
  rw [e1]
  exact e2
theorem Cf.ty (h : Cf K mg C0 fld c C) : PySem.W.typeIn K (.ref C) = some (.type "type") := by
  obtain ⟨nm, q, N, bs, sn, sub, ab, col, dd, k0, k1, k2, k3, k5, e⟩ := h.cls
  show (K.lookup C).map (·.cls) = _
  rw [e]
  rfl
theorem Cf.oex (h : Cf K mg C0 fld c C) (sa : PySem.W.findIn K (.ref C) "__setattr__" = some (some (.builtin "object.__setattr__"))) (kC : PySem.W.keepIn K (.ref C) = true) : OexC K C := by
  obtain ⟨nm, q, N, bs, sn, sub, ab, col, dd, k0, k1, k2, k3, k5, e⟩ := h.cls
  refine ⟨⟨nm, q, N, bs, _, sn, sub, ab, col, dd, k0, k1, k2, k3, k5, e, ?_⟩, sa, h.sb, h.ty, kC⟩
  unfold bmOf
  split
  · decide +kernel
  · show PySem.HandSPX.refsVE veT = true
    decide +kernel
theorem Cf.rx (h : Cf K mg C0 fld c C) {ks : List Str} (hk : ∀ f ∈ ks, fld c = some f) : Rx K C ks := ⟨h.ga, h.gg, h.sb, h.hd, fun f hf => h.no f (hk f hf)⟩
theorem lk_mem {L : List (Str × Addr)} {c : Str} {C : Addr} : L.lookup c = some C → (c, C) ∈ L := by
  induction L with
  | nil =>
    intro h
    cases h
  | cons p L ih =>
    intro h
    obtain ⟨a, b⟩ := p
    by_cases e : c = a
    · subst e
      rw [List.lookup_cons_self] at h
      cases h
      exact List.mem_cons_self
    · have e' : (c == a) = false := by simpa using e
      have h2 : L.lookup c = some C := by
        simpa [List.lookup, e'] using h
      exact List.mem_cons_of_mem _ (ih h2)
theorem nd_inj : ∀ {L : List (Str × Addr)} {c d : Str} {C : Addr}, (L.map (·.2)).Nodup → (c, C) ∈ L → (d, C) ∈ L → c = d
  | [], _, _, _, _, h, _ => by cases h
  | p :: L, c, d, C, nd, h1, h2 => by
    rw [List.map_cons, List.nodup_cons] at nd
    rcases List.mem_cons.mp h1 with e1 | h1
    · rcases List.mem_cons.mp h2 with e2 | h2
      · rw [← e1] at e2
        exact (congrArg Prod.fst e2).symm
      · exact absurd (List.mem_map_of_mem (f := (·.2)) h2) (by rw [← e1] at nd; exact nd.1)
    · rcases List.mem_cons.mp h2 with e2 | h2
      · exact absurd (List.mem_map_of_mem (f := (·.2)) h1) (by rw [← e2] at nd; exact nd.1)
      · exact nd_inj nd.2 h1 h2
theorem vbeq {C D : Addr} : (Value.ref D == Value.ref C) = decide (D = C) := by
  by_cases h : D = C
  · rw [h, decide_eq_true rfl]
    exact beq_self_eq_true _
  · rw [decide_eq_false h]
    exact beq_eq_false_iff_ne.mpr fun z => h (Value.ref.inj z)
theorem sbeq {c d : Str} : (c == d) = decide (c = d) := by
  by_cases h : c = d
  · rw [h, decide_eq_true rfl]
    exact beq_self_eq_true _
  · rw [decide_eq_false h]
    exact beq_eq_false_iff_ne.mpr h
theorem ve_ref (D : Addr) : veT.contains (Value.ref D) = false := rfl
theorem ek_mk {G : Gm} {L : List (Str × Addr)} (hcl : ∀ s, G.cl s = L.lookup s) (nd : (L.map (·.2)).Nodup) (h0 : L.lookup ("RowsError" : Str) = some C0) (hL : ∀ p ∈ L, Cf K mg C0 fld p.1 p.2)
    (hn : PySem.W.specialIn K (.builtin "object.__class__") "__get__" = some (some (.builtin "getset_descriptor.__get__"))) (ht : PySem.W.takesIn K (.builtin "object.__class__") = some true) : Ek K mg G fld := by
  have cf : ∀ {c C}, G.cl c = some C → Cf K mg C0 fld c C := fun {c C} h => hL (c, C) (lk_mem (by rw [← hcl]; exact h))
  have sub : ∀ {c C d D}, G.cl c = some C → G.cl d = some D → PySem.W.subIn K (.ref C) (.ref D) = some (kin c d) := fun {c C d D} h1 h2 => by
    rw [(cf h1).subI]
    rw [hcl] at h1 h2
    have m1 := lk_mem h1
    have m2 := lk_mem h2
    have m0 := lk_mem h0
    have eCD : (Value.ref D == Value.ref C) = (c == d) := by
      by_cases e : c = d
      · subst e
        rw [h1] at h2
        cases h2
        rw [vbeq, sbeq, decide_eq_true rfl, decide_eq_true rfl]
      · have : ¬ D = C := fun z => e (nd_inj nd m1 (by rw [← z]; exact m2))
        rw [vbeq, sbeq, decide_eq_false e, decide_eq_false this]
    have e0 : (Value.ref D == Value.ref C0) = (d == "RowsError") := by
      by_cases e : d = "RowsError"
      · subst e
        rw [h2] at h0
        cases h0
        rw [vbeq, sbeq, decide_eq_true rfl, decide_eq_true rfl]
      · have : ¬ D = C0 := fun z => e (nd_inj nd m2 (by rw [z]; exact m0))
        rw [vbeq, sbeq, decide_eq_false e, decide_eq_false this]
    have e0' : c = "RowsError" → (c == d) = (d == "RowsError") := fun e => by
      subst e
      by_cases h : d = "RowsError"
      · subst h
        rfl
      · have h' : ¬ ("RowsError" : Str) = d := fun z => h z.symm
        rw [sbeq, sbeq, decide_eq_false h, decide_eq_false h']
    unfold kin bmOf
    split
    · rename_i ec
      rw [List.contains_cons, ve_ref, eCD, e0' ec]
      simp
    · rw [List.contains_cons, List.contains_cons, ve_ref, eCD, e0]
      simp
  refine ⟨fun c C h => (cf h).mgc, fun c C d D h1 h2 => PySem.W.exm_ref (cf h2).sb (cf h2).hd (cf h2).ty (sub h1 h2), fun c C d D h1 h2 => ?_, fun c C h1 => ?_, fun c C h => ⟨(cf h).ga, (cf h).gg, (cf h).sb, (cf h).hd, (cf h).ha, hn, ht, by rw [(cf h).mroI, bm_ty]; rfl⟩, fun c C n h hf => (cf h).no n hf⟩
  · unfold PySem.W.kitOne
    split
    · rename_i e
      have e' : C = D := by simpa using e
      subst e'
      rw [hcl] at h1 h2
      have : c = d := nd_inj nd (lk_mem h1) (lk_mem h2)
      subst this
      simp [kin]
    · show (if ((PySem.W.clsIn K D).isSome && PySem.W.typeIn K (.ref D) == some (.type "type")) = true then PySem.W.subIn K (.ref C) (.ref D) else none) = _
      obtain ⟨cd, e1, _⟩ := (cf h2).clsD
      rw [if_pos (by rw [e1, (cf h2).ty]; rfl)]
      exact sub h1 h2
  · unfold PySem.W.kitOne
    rw [if_neg (by simp)]
    show (if PySem.W.kitMeta "ValueError" = true then PySem.W.subIn K (.ref C) (.type "ValueError") else none) = _
    rw [if_pos (by decide +kernel), (cf h1).subI, bm_ty]
    rfl
/-- the root class, called -/
structure MkB (K : PySem.W.Frag) (mg : Str → Option Value) (G : Gm) (x : Str) : Prop where
  ex : ∃ C : Addr, G.cl x = some C ∧ mg x = some (.ref C) ∧ PySem.W.excIn K C veT "ValueError.__new__" = true ∧ PySem.W.keepIn K (.ref C) = true ∧ PySem.W.subIn K (.ref C) (.type "BaseException") = some true ∧ PySem.W.typeIn K (.ref C) = some (.type "type")
theorem is_rzb {X : Cx} {G : Gm} {W : WX} {x : Str} {e : Expr} {p pos pos2 : Pos} {fs : Env → M (List Sv)} (B : MkB X.K X.mg G x) (hc : X.calm = true) (tk : Takes X W) (hg : Gl X x) (ha : PA X [e] (tA G W fs)) (hdb : (x == ("__debug__" : Str)) = false := by decide)
    (he : starEach [e] X.env = (false, eval e X.env) :: starEach [] X.env := by rfl) (hpl : (backTo pos (starEach [] X.env)).any (·.1) = false := by rfl) :
    PS X (.Raise (some (.Call (.Name x p) [e] [] pos)) none pos2) (tS G W (sRzB x fs)) := by
  obtain ⟨C, h1, h2, h3, h4, h5, h6⟩ := B.ex
  exact is_rzB PySem.F.excBase_ValueError h3 h1 h2 h4 (raises_own h5 h6) hc tk hg ha hdb he hpl
end
/-! ### loops, run -/
theorem loopF_inv {t : Tg} {body : SM} (P : Nat → Env → Mem → Prop) : ∀ {items : List D} {i : Nat} {env : Env} {m : Mem}, P i env m →
    (∀ (j : Nat) (d : D) (env : Env) (m : Mem), items[j]? = some d → P (i + j) env m → ∃ env1 env2 m2, setT t d env = some env1 ∧ body env1 m = some (.nx env2, m2) ∧ P (i + j + 1) env2 m2) →
    ∃ env' m', loopF t body items env m = some (.nx env', m') ∧ P (i + items.length) env' m'
  | [], i, env, m, h, _ => ⟨env, m, rfl, h⟩
  | d :: ds, i, env, m, h, hs => by
    obtain ⟨env1, env2, m2, e1, e2, h2⟩ := hs 0 d env m rfl h
    obtain ⟨env', m', e3, h3⟩ := loopF_inv P (items := ds) (i := i + 1) h2 fun j d' env m hj hp => by
      have := hs (j + 1) d' env m (by simpa using hj) (by rw [show i + (j + 1) = i + 1 + j by omega]; exact hp)
      rwa [show i + (j + 1) = i + 1 + j by omega] at this
    refine ⟨env', m', ?_, ?_⟩
    · unfold loopF
      rw [e1]
      dsimp only
      rw [e2]
      exact e3
    · rw [List.length_cons, show i + (ds.length + 1) = i + 1 + ds.length by omega]
      exact h3
theorem loopC_inv {t : Tg} {ft : Env → M Bool} {fe : Env → M Sv} {env0 : Env} (P : Nat → List D → Mem → Prop) : ∀ {items acc : List D} {i : Nat} {m : Mem}, P i acc m →
    (∀ (j : Nat) (d : D) (acc : List D) (m : Mem), items[j]? = some d → P (i + j) acc m → acc.length < sizeLine ∧ ∃ env1 m1, setT t d env0 = some env1 ∧ ((ft env1 m = some (.ok true, m1) ∧ ∃ x m2 y m3, fe env1 m1 = some (.ok x, m2) ∧ toD x m2 = some (.ok y, m3) ∧ P (i + j + 1) (acc ++ [y]) m3) ∨ (ft env1 m = some (.ok false, m1) ∧ P (i + j + 1) acc m1))) →
    ∃ acc' m', loopC t ft fe env0 items acc m = some (acc', m') ∧ P (i + items.length) acc' m'
  | [], acc, i, m, h, _ => ⟨acc, m, rfl, h⟩
  | d :: ds, acc, i, m, h, hs => by
    have hrec : ∀ acc2 m2, P (i + 0 + 1) acc2 m2 → ∃ acc' m', loopC t ft fe env0 ds acc2 m2 = some (acc', m') ∧ P (i + (d :: ds).length) acc' m' := fun acc2 m2 h2 => by
      obtain ⟨acc', m', e3, h3⟩ := loopC_inv P (items := ds) (i := i + 1) h2 fun j d' acc m hj hp => by
        have := hs (j + 1) d' acc m (by simpa using hj) (by rw [show i + (j + 1) = i + 1 + j by omega]; exact hp)
        rwa [show i + (j + 1) = i + 1 + j by omega] at this
      refine ⟨acc', m', e3, ?_⟩
      rw [List.length_cons, show i + (ds.length + 1) = i + 1 + ds.length by omega]
      exact h3
    obtain ⟨hz, env1, m1, e1, ⟨e2, x, m2, y, m3, e3, e4, h2⟩ | ⟨e2, h2⟩⟩ := hs 0 d acc m rfl h
    · obtain ⟨acc', m', e5, h5⟩ := hrec _ _ h2
      refine ⟨acc', m', ?_, h5⟩
      unfold loopC
      simp only [e1, e2, e3, e4]
      rw [if_pos hz]
      exact e5
    · obtain ⟨acc', m', e5, h5⟩ := hrec _ _ h2
      refine ⟨acc', m', ?_, h5⟩
      unfold loopC
      simp only [e1, e2]
      exact e5
end MR

namespace MR
open PySem PySem.Spec PyProof.Rows L2
/-! ### a run, step by step -/
section
variable {f g h : SM} {fa : Env → M Sv} {ga : Env → M Bool} {env env1 : Env} {m m1 : Mem} {x y : Sv} {i j : Nat} {r : Option (Out × Mem)}
theorem run_of {fi : Nat → Out × Mem → Option (Except Xc Sv × Mem)} {k : Nat} {args : List Sv} {o : Out × Mem} {q : Option (Except Xc Sv × Mem)} (e : f (args.map some ++ List.replicate (k - args.length) none) m = some o) (h2 : fi m.length o = q) : runB fi f k args m = q := by
  unfold runB
  rw [e]
  exact h2
theorem sq_set (e : fa env m = some (.ok x, m1)) (hg : g (env.set i (some x)) m1 = r) : sSeq (sE fa (sSet i)) g env m = r := by
  unfold sSeq sE
  simp only [e]
  exact hg
theorem sq_expr (e : fa env m = some (.ok x, m1)) (hg : g env m1 = r) : sSeq (sE fa fun _ => sNx) g env m = r := by
  unfold sSeq sE
  simp only [e]
  exact hg
theorem sq_ift (e : ga env m = some (.ok true, m1)) (hg : sSeq f h env m1 = r) : sSeq (sIf ga f g) h env m = r := by
  unfold sSeq sIf sT
  simp only [e]
  exact hg
theorem sq_iff (e : ga env m = some (.ok false, m1)) (hg : sSeq g h env m1 = r) : sSeq (sIf ga f g) h env m = r := by
  unfold sSeq sIf sT
  simp only [e]
  exact hg
theorem sq_nx : sSeq sNx h env m = h env m := rfl
theorem s_ift (e : ga env m = some (.ok true, m1)) (hg : f env m1 = r) : sIf ga f g env m = r := by
  unfold sIf sT
  simp only [e]
  exact hg
theorem s_iff (e : ga env m = some (.ok false, m1)) (hg : g env m1 = r) : sIf ga f g env m = r := by
  unfold sIf sT
  simp only [e]
  exact hg
theorem s_ret (e : fa env m = some (.ok x, m1)) : sE fa sRt env m = some (.rt x, m1) := by
  unfold sE
  simp only [e]
  rfl
theorem sq_ret (e : fa env m = some (.ok x, m1)) : sSeq (sE fa sRt) g env m = some (.rt x, m1) := by
  unfold sSeq
  rw [s_ret e]
theorem s_set (e : fa env m = some (.ok x, m1)) : sE fa (sSet i) env m = some (.nx (env.set i (some x)), m1) := by
  unfold sE
  simp only [e]
  rfl
theorem sq_par {fs : Env → M (List Sv)} (e : fs env m = some (.ok [x, y], m1)) (hg : g ((env.set i (some x)).set j (some y)) m1 = r) : sSeq (sPar i j fs) g env m = r := by
  unfold sSeq sPar
  simp only [e]
  exact hg
theorem sq_for {it : Env → M (List D)} {t : Tg} {items : List D} (P : Nat → Env → Mem → Prop) (e : it env m = some (.ok items, m1)) (h0 : P 0 env m1)
    (hs : ∀ (k : Nat) (d : D) (env : Env) (m : Mem), items[k]? = some d → P k env m → ∃ env1 env2 m2, setT t d env = some env1 ∧ f env1 m = some (.nx env2, m2) ∧ P (k + 1) env2 m2)
    (hg : ∀ env' m', P items.length env' m' → g env' m' = r) : sSeq (sFor it t f) g env m = r := by
  obtain ⟨env', m', e2, h2⟩ := loopF_inv (t := t) (body := f) P (i := 0) h0 fun j d env m hj hp => by
    rw [Nat.zero_add] at hp ⊢
    exact hs j d env m hj hp
  rw [Nat.zero_add] at h2
  unfold sSeq sFor
  simp only [e, e2]
  exact hg _ _ h2
def Gs (c : Option (Out × Mem)) (R : Out × Mem → Prop) : Prop := ∃ o, c = some o ∧ R o
theorem Gs.to {a b : Option (Out × Mem)} {R : Out × Mem → Prop} (e : a = b) (h : Gs b R) : Gs a R := by
  rw [e]
  exact h
theorem gs_for {it : Env → M (List D)} {t : Tg} {items : List D} {R : Out × Mem → Prop} (P : Nat → Env → Mem → Prop) (e : it env m = some (.ok items, m1)) (h0 : P 0 env m1)
    (hs : ∀ (k : Nat) (d : D) (env : Env) (m : Mem), items[k]? = some d → P k env m → ∃ env1, setT t d env = some env1 ∧ Gs (f env1 m) fun o => ∃ env2, o.1 = .nx env2 ∧ P (k + 1) env2 o.2)
    (hg : ∀ env' m', P items.length env' m' → Gs (g env' m') R) : Gs (sSeq (sFor it t f) g env m) R := by
  obtain ⟨env', m', e2, h2⟩ := loopF_inv (t := t) (body := f) P (i := 0) h0 fun j d env m hj hp => by
    rw [Nat.zero_add] at hp ⊢
    obtain ⟨env1, h1, ⟨o, m2⟩, h2, env2, h3, h4⟩ := hs j d env m hj hp
    cases h3
    exact ⟨env1, env2, m2, h1, h2, h4⟩
  rw [Nat.zero_add] at h2
  obtain ⟨o, ho, hR⟩ := hg _ _ h2
  refine ⟨o, ?_, hR⟩
  unfold sSeq sFor
  simp only [e, e2]
  exact ho
theorem run_g {fi : Nat → Out × Mem → Option (Except Xc Sv × Mem)} {k : Nat} {args : List Sv} {R : Out × Mem → Prop} {q : Option (Except Xc Sv × Mem)} (e : Gs (f (args.map some ++ List.replicate (k - args.length) none) m) R) (h2 : ∀ o, R o → fi m.length o = q) : runB fi f k args m = q := by
  obtain ⟨o, ho, hR⟩ := e
  exact run_of ho (h2 o hR)
theorem is_par2 {X : Cx} {G : Gm} {W : WX} {x y : Str} {a b : Expr} {fs : Env → M (List Sv)} {pos px py pt : Pos} {kt k2 pt2} (hc : X.calm = true) (hN : X.N.Nodup) (hi : X.N[i]? = some x) (hj : X.N[j]? = some y) (hij : i ≠ j)
    (hx : X.env.scope.names.lookup x = some .local) (hy : X.env.scope.names.lookup y = some .local) (h : PA X [a, b] (tA G W fs)) (hw : swappedStores [.Tuple [.Name x px, .Name y py] kt pt] (.Tuple [a, b] k2 pt2) X.env = pure (some [x, y]) := by rfl)
    (hs : swapsWithSole [.Tuple [.Name x px, .Name y py] kt pt] (.Tuple [a, b] k2 pt2) pos.line X.env = pure false := by rfl) :
    PS X (.Assign [.Tuple [.Name x px, .Name y py] kt pt] (.Tuple [a, b] k2 pt2) pos) (tS G W (sPar i j fs)) := is_par hc hN hi hj hij hx hy h (ps_par hc hN hi hj hij hx hy h hw hs)
end
end MR

namespace MR
open PySem PySem.Spec PyProof.Rows L2
def top (i : Nat) : Stmt := PySem.Challenge.pw_mostrows_k10_what_refusals_are.main.body.getD i (.Pass ⟨0, 0, 0, 0⟩)
def clsBody : Stmt → Stmt
  | .ClassDef (body := b) .. => b.getD 0 (.Pass ⟨0, 0, 0, 0⟩)
  | _ => .Pass ⟨0, 0, 0, 0⟩
abbrev ini (i : Nat) : Stmt := clsBody (top i)
structure Bi (mg : Str → Option Value) : Prop where
  b_ValueError : mg "ValueError" = none
  b_int : mg "int" = none
  b_isinstance : mg "isinstance" = none
  b_len : mg "len" = none
  b_list : mg "list" = none
  b_range : mg "range" = none
structure Cn (cl : Str → Option Addr) where
  RowsError : Addr
  h_RowsError : cl "RowsError" = some RowsError
  BadTable : Addr
  h_BadTable : cl "BadTable" = some BadTable
  BadQuestion : Addr
  h_BadQuestion : cl "BadQuestion" = some BadQuestion
  BadHouse : Addr
  h_BadHouse : cl "BadHouse" = some BadHouse
  NoCover : Addr
  h_NoCover : cl "NoCover" = some NoCover
  TooMany : Addr
  h_TooMany : cl "TooMany" = some TooMany
  NoRing : Addr
  h_NoRing : cl "NoRing" = some NoRing
  NoEars : Addr
  h_NoEars : cl "NoEars" = some NoEars
  NoAnswer : Addr
  h_NoAnswer : cl "NoAnswer" = some NoAnswer
  NoText : Addr
  h_NoText : cl "NoText" = some NoText
  NoRow : Addr
  h_NoRow : cl "NoRow" = some NoRow
def fldT (c : Str) : Option Str := if c = "BadTable" then some "at" else if c = "BadQuestion" then some "at" else if c = "BadHouse" then some "table" else if c = "NoCover" then some "column" else if c = "TooMany" then some "most" else if c = "NoText" then some "row" else none
theorem fld_1 {c d f : Str} (h : kin c d = true) (hd : ¬ d = "RowsError") (hf : fldT d = some f) : fldT c = some f := by
  have e : c = d := by
    simpa [kin, hd] using h
  rw [e, hf]
theorem fld_2 {c d1 d2 f : Str} (h : (kin c d1 || (kin c d2 || false)) = true) (h1 : ¬ d1 = "RowsError") (f1 : fldT d1 = some f) (h2 : ¬ d2 = "RowsError") (f2 : fldT d2 = some f) : fldT c = some f := by
  rcases Bool.or_eq_true_iff.mp h with h | h
  · exact fld_1 h h1 f1
  · rcases Bool.or_eq_true_iff.mp h with h | h
    · exact fld_1 h h2 f2
    · cases h
section
variable {P : Program} {w : World} {K : PySem.W.Frag} {mg : Str → Option Value} {base : Heap} {cl : Str → Option Addr}
abbrev k__law_take := 1
abbrev k__law_box := 1
abbrev k__law_name := 2
abbrev k__law_refuse := 3
abbrev k__law_sorts := 4
abbrev k__law_field := 4
abbrev k_law := 5
abbrev Bx := Int × Int
def bxD (b : Bx) : Mo := .l [.int b.1, .int b.2]
/-- the draw -/
def takeV (b : Bx) (n : Int) : Int := if 0 < b.1 then b.1 % n else ((b.2 * 69623 % 2147483647) * 2147483647 + (((b.2 * 69623 % 2147483647) * 48271 + 30103) % 2147483629 + 1)) / 8191 % n
def takeB (b : Bx) (n : Int) : Bx := if 0 < b.1 then (b.1 / n, b.2) else (b.1, ((b.2 * 69623 % 2147483647) * 48271 + 30103) % 2147483629 + 1)
def ct__law_take : Ct := fun args m => match args, m with
  | [.r 0, .d (.int n)], [.l [.int c, .int s]] => if 0 < n ∧ n < 18446744073709551616 then some (.ok (.d (.int (takeV (c, s) n))), [bxD (takeB (c, s) n)]) else none
  | _, _ => none
/-- the item at a place -/
def nz (xs : List Int) (k : Int) : Int := xs.getD k.toNat 0
/-- the box -/
def boxC (xs : List Int) (k : Int) : Int := if k < xs.length then nz xs k else if 0 < xs.length then 7919 * k + 11 + nz xs (k % xs.length) % 2147483629 * 69623 else 7919 * k + 11
def boxV (xs : List Int) (k : Int) : Bx := (if 1000000000000000000 ≤ boxC xs k then boxC xs k else 0, (boxC xs k % 2147483629 * 48271 + 40692 * k) % 2147483629 + 1)
def ct__law_box : Ct := fun args m => match args, m with
  | [.d (.lsf ds), .d (.int k)], [] => (match intsOf ds with
    | some xs => if 0 ≤ k ∧ k < 1000 ∧ xs.length < 1000 then some (.ok (.r 0), [bxD (boxV xs k)]) else none
    | none => none)
  | _, _ => none
theorem intsOf_eq : ∀ {ds : List D} {xs : List Int}, intsOf ds = some xs → ds = xs.map D.int
  | [], xs, h => by
    cases h
    rfl
  | d :: ds, xs, h => by
    cases d with
    | int i =>
      have h' : (match intsOf ds with
        | some xs => some (i :: xs)
        | none => none) = some xs := h
      cases q : intsOf ds with
      | none =>
        rw [q] at h'
        cases h'
      | some ys =>
        rw [q] at h'
        cases h'
        rw [intsOf_eq q]
        rfl
    | _ => cases h
theorem atI_map {α β : Type} (f : α → β) (xs : List α) (i : Int) : atI (xs.map f) i = (atI xs i).map f := by
  unfold atI
  rw [List.length_map]
  cases ixN xs.length i with
  | none => rfl
  | some j => simp
theorem atI_in {α : Type} {xs : List α} {i : Int} (d : α) (h0 : 0 ≤ i) (h1 : i < xs.length) : atI xs i = some (xs.getD i.toNat d) := by
  unfold atI ixN
  rw [if_pos h0, if_pos h1]
  have : i.toNat < xs.length := by omega
  simp [List.getD, this]
theorem ix_ints {xs : List Int} {i : Int} {m : Mem} (h0 : 0 ≤ i) (h1 : i < xs.length) : gIx (.d (.lsf (xs.map D.int))) (.d (.int i)) m = some (.ok (.d (.int (nz xs i))), m) := by
  unfold nz
  simp [gIx, asI, asL, M.bd, M.ok, atI_map, atI_in 0 h0 h1]
def clsX (k : Int) : Str := if k = 0 then "BadTable" else if k = 1 then "BadQuestion" else if k = 2 then "BadHouse" else if k = 3 then "NoCover" else if k = 4 then "TooMany" else if k = 5 then "NoRing" else if k = 6 then "NoEars" else if k = 7 then "NoAnswer" else if k = 8 then "NoText" else if k = 9 then "NoRow" else "RowsError"
def fsX (k n : Int) (s : Str) : List (Str × D) := if k = 0 then [("at", .int n)] else if k = 1 then [("at", .int n)] else if k = 2 then [("table", .str s)] else if k = 3 then [("column", .str s)] else if k = 4 then [("most", .int n)] else if k = 8 then [("row", .int n)] else []
def ct__law_refuse : Ct := fun args m => match args, m with
  | [.d (.int k), .d (.int n), .d (.str s)], [] => if 0 ≤ k ∧ k ≤ 10 then some (.error (.mk (clsX k) (fsX k n s)), []) else none
  | _, _ => none
def sortsV (k : Int) : List D := [.bl (decide (0 = k)), .bl (decide (1 = k)), .bl (decide (2 = k)), .bl (decide (3 = k)), .bl (decide (4 = k)), .bl (decide (5 = k)), .bl (decide (6 = k)), .bl (decide (7 = k)), .bl (decide (8 = k)), .bl (decide (9 = k)), .bl true]
def ct__law_sorts : Ct := fun args m => match args, m with
  | [.d (.int k), .d (.int n), .d (.str s)], [] => if 0 ≤ k ∧ k ≤ 10 then some (.ok (.d (.lst (sortsV k))), []) else none
  | _, _ => none
def fieldV (k n : Int) (s : Str) : D := if k = 0 ∨ k = 1 ∨ k = 4 ∨ k = 8 then .int n else if k = 2 ∨ k = 3 then .str s else if k = 10 then .str "base" else .str "none"
def ct__law_field : Ct := fun args m => match args, m with
  | [.d (.int k), .d (.int n), .d (.str s)], [] => if 0 ≤ k ∧ k ≤ 10 then some (.ok (.d (fieldV k n s)), []) else none
  | _, _ => none
theorem eleven {k : Int} (h : 0 ≤ k ∧ k ≤ 10) : k = 0 ∨ k = 1 ∨ k = 2 ∨ k = 3 ∨ k = 4 ∨ k = 5 ∨ k = 6 ∨ k = 7 ∨ k = 8 ∨ k = 9 ∨ k = 10 := by omega
theorem takeV_in {b : Bx} {n : Int} (h : 0 < n) : 0 ≤ takeV b n ∧ takeV b n < n := by
  unfold takeV
  split
  · exact ⟨Int.emod_nonneg _ (by omega), Int.emod_lt_of_pos _ h⟩
  · exact ⟨Int.emod_nonneg _ (by omega), Int.emod_lt_of_pos _ h⟩
def letters : Str := "abcdefghijklmnopqrstuvwxyz"
def letS (i : Int) : Str := ⟨#[letters.cps.toList.getD i.toNat 97]⟩
def boxN (b : Bx) : Nat → Bx
  | 0 => b
  | j + 1 => takeB (boxN b j) 26
def strN (b : Bx) : Nat → List Str
  | 0 => []
  | j + 1 => strN b j ++ [letS (takeV (boxN b j) 26)]
def nmS (b : Bx) : Str := Txt.join "" (strN (takeB b 7) (takeV b 7).toNat)
def nmB (b : Bx) : Bx := boxN (takeB b 7) (takeV b 7).toNat
def ct__law_name : Ct := fun args m => match args, m with
  | [.r 0], [.l [.int c, .int s]] => some (.ok (.d (.str (nmS (c, s)))), [bxD (nmB (c, s))])
  | _, _ => none
def ct_law : Ct := fun args m => match args, m with
  | [.d (.lsf ds)], [] => (match intsOf ds with
    | some xs => if xs.length < 1000 then some (.ok (.d (.bl true)), []) else none
    | none => none)
  | _, _ => none
def duesD : D := .lst [.str "number", .str "number", .str "name", .str "name", .str "number", .str "none", .str "none", .str "none", .str "number", .str "none", .str "base"]
def PL (ds : List D) : Nat → Env → Mem → Prop := fun _ env m => ∃ b x3 x4 x5 x6 x7 x8 x9 x10 x11, env = [some (.d (.lsf ds)), some (.r 0), some (.d duesD), x3, x4, x5, x6, x7, x8, x9, x10, x11] ∧ m = [bxD b]
local macro_rules | `(tactic| walk_at "ev") => `(tactic| simp [runB, sSeq, sIf, sE, sT, sSet, sRt, sNx, fB, f2, f1, fL, fVar, fC, M.bd, M.ok, M.if, gII, gIx, gAdd, asI, asB, asL, atI, ixN, cMul, cDiv, cMod, cPow, bxD, takeV, takeB, boxV, boxC, gLen1, gInt1, gLst, mkL, toDs, finO, fCons, fNil, gPow, sizeLine_eq, sSetI, toD, fin, gEq, gNe, valD, eqD, sRz1, sRz0, sRzB, clsX, fsX, *])
local macro_rules | `(tactic| walk_at "evx") => `(tactic| simp [runB, sSeq, sIf, sE, sT, sSet, sRt, sNx, fB, f2, f1, fL, fVar, fC, M.bd, M.ok, M.if, gII, gAdd, asI, asB, asL, atI, ixN, cMul, cDiv, cMod, cPow, bxD, takeV, takeB, boxV, boxC, gLen1, gInt1, gLst, mkL, toDs, finO, fCons, fNil, gPow, sizeLine_eq, sSetI, toD, fin, gEq, gNe, valD, eqD, sRz1, sRz0, sRzB, clsX, fsX, *])
local macro_rules | `(tactic| walk_at "evt") => `(tactic| simp (decide := true) [runB, sSeq, sIf, sE, sT, sSet, sRt, sNx, fB, f2, f1, fL, fVar, fC, M.bd, M.ok, M.if, gII, gIx, gAdd, asI, asB, asL, asK, atI, ixN, gLst, mkL, toDs, finO, fCons, fNil, sizeLine_eq, toD, fin, gEq, gNe, valD, eqD, clsX, fsX, sTry, selH, hAll, hRun, mkHd, hEnd, hSlot, hOff, hxOf, gIsx, gFld, fldOf, kin, gLen, gCall, refsOf, renum, getAll, putAll, ct__law_refuse, sortsV, fieldV, *])
theorem letters_len : letters.cps.toList.length = 26 := by decide +kernel
abbrev feName : Env → M Sv := f2 gIx (fVar 1) (fL (gLen 2 (gCall ct__law_take)) (fCons (fVar 0) (fCons (fC (D.int 26)) fNil)))
theorem gIx_letters {i : Int} (h0 : 0 ≤ i) (h1 : i < 26) (m : Mem) : gIx (.d (.str letters)) (.d (.int i)) m = some (.ok (.d (.str (letS i))), m) := by
  have e := atI_in (xs := letters.cps.toList) 97 h0 (by rw [letters_len]; exact h1)
  have hz : letters.length ≤ sizeLine := by
    rw [sizeLine_eq]
    decide +kernel
  simp [gIx, asI, M.bd, M.ok, e, hz, letS]
theorem take_call {b : Bx} {n : Int} (h : 0 < n) (h2 : n < 18446744073709551616) : gCall ct__law_take [.r 0, .d (.int n)] [bxD b] = some (.ok (.d (.int (takeV b n))), [bxD (takeB b n)]) := by
  obtain ⟨c, s⟩ := b
  simp [gCall, refsOf, renum, getAll, putAll, ct__law_take, h, h2, bxD, isFz]
theorem step_name (b : Bx) (k : Option Sv) : feName [some (.r 0), some (.d (.str letters)), k] [bxD b] = some (.ok (.d (.str (letS (takeV b 26)))), [bxD (takeB b 26)]) := by
  have h := takeV_in (b := b) (n := 26) (by omega)
  have e1 := take_call (b := b) (n := 26) (by omega) (by omega)
  simp [feName, f2, fL, fVar, fC, fCons, fNil, gLen, M.bd, M.ok, M.if, e1, gIx_letters h.1 h.2]
theorem strN_len (b : Bx) : ∀ n, (strN b n).length = n
  | 0 => rfl
  | n + 1 => by
    show (strN b n ++ _).length = _
    rw [List.length_append, strN_len b n]
    rfl
theorem nm_loop (n : Nat) (hn : n < 1000) (b : Bx) : loopC (.nm 2) fTrue feName [some (.r 0), some (.d (.str letters)), none] (rgD 0 n) [] [bxD b] = some ((strN b n).map D.str, [bxD (boxN b n)]) := by
  have hl : (rgD 0 (n : Int)).length = n := by simp [rgD]
  obtain ⟨acc, m', e, h1, h2⟩ := loopC_inv (t := .nm 2) (ft := fTrue) (fe := feName) (env0 := [some (.r 0), some (.d (.str letters)), none]) (fun j acc m => acc = (strN b j).map D.str ∧ m = [bxD (boxN b j)]) (items := rgD 0 n) (acc := []) (i := 0) (m := [bxD b]) ⟨rfl, rfl⟩ (by
    rintro j d acc m hj ⟨rfl, rfl⟩
    have hjn : j < n := by
      have := (List.getElem?_eq_some_iff.mp hj).1
      omega
    rw [Nat.zero_add]
    refine ⟨by rw [List.length_map, strN_len, sizeLine_eq]; omega, _, _, rfl, .inl ⟨rfl, _, _, _, _, step_name _ _, rfl, ?_, rfl⟩⟩
    show _ = (strN b j ++ _).map D.str
    rw [List.map_append]
    rfl)
  rw [hl, Nat.zero_add] at h1 h2
  rw [e, h1, h2]
theorem letS_len (i : Int) : (letS i).length = 1 := rfl
theorem strN_sum (b : Bx) : ∀ n, ((strN b n).map (·.length)).sum = n
  | 0 => rfl
  | n + 1 => by
    show ((strN b n ++ _).map (·.length)).sum = _
    rw [List.map_append, List.sum_append, strN_sum b n]
    rfl
def numB (b : Bx) : Bx := takeB (takeB (takeB b 100) 1000000000000000000) 2
def numV (b : Bx) : Int := if takeV (takeB (takeB b 100) 1000000000000000000) 2 = 0 then takeV b 100 - 1 else takeV (takeB b 100) 1000000000000000000
theorem name_call (b : Bx) : gCall ct__law_name [.r 0] [bxD b] = some (.ok (.d (.str (nmS b))), [bxD (nmB b)]) := by
  obtain ⟨c, s⟩ := b
  simp [gCall, refsOf, renum, getAll, putAll, ct__law_name, bxD, isFz]
theorem sorts_call {i n : Int} {s : Str} (h : 0 ≤ i ∧ i ≤ 10) (m : Mem) : gCall ct__law_sorts [.d (.int i), .d (.int n), .d (.str s)] m = some (.ok (.d (.lst (sortsV i))), m) := by
  simp [gCall, refsOf, renum, getAll, putAll, ct__law_sorts, h]
theorem field_call {i n : Int} {s : Str} (h : 0 ≤ i ∧ i ≤ 10) (m : Mem) : gCall ct__law_field [.d (.int i), .d (.int n), .d (.str s)] m = some (.ok (.d (fieldV i n s)), m) := by
  simp [gCall, refsOf, renum, getAll, putAll, ct__law_field, h]
theorem num_call (b : Bx) (tl : Env) (x0 : Option Sv) : f2 gIx
      (fL (gLst false)
        (fCons (f2 gSub (fL (gLen 2 (gCall ct__law_take)) (fCons (fVar 1) (fCons (fC (D.int 100)) fNil))) (fC (D.int 1)))
          (fCons (fL (gLen 2 (gCall ct__law_take)) (fCons (fVar 1) (fCons (f2 gPow (fC (D.int 10)) (fC (D.int 18))) fNil))) fNil)))
      (fL (gLen 2 (gCall ct__law_take)) (fCons (fVar 1) (fCons (fC (D.int 2)) fNil))) (x0 :: some (.r 0) :: tl) [bxD b] = some (.ok (.d (.int (numV b))), [bxD (numB b)]) := by
  have t1 := take_call (b := b) (n := 100) (by omega) (by omega)
  have t2 := take_call (b := takeB b 100) (n := 1000000000000000000) (by omega) (by omega)
  have t3 := take_call (b := takeB (takeB b 100) 1000000000000000000) (n := 2) (by omega) (by omega)
  have h3 := takeV_in (b := takeB (takeB b 100) 1000000000000000000) (n := 2) (by omega)
  have hc : takeV (takeB (takeB b 100) 1000000000000000000) 2 = 0 ∨ takeV (takeB (takeB b 100) 1000000000000000000) 2 = 1 := by omega
  rcases hc with hc | hc <;> simp [f2, fL, fCons, fVar, fC, fNil, gLen, M.bd, M.ok, M.if, gSub, gII, asI, asL, asK, gPow, cPow, t1, t2, t3, gLst, mkL, toDs, toD, sizeLine_eq, gIx, hc, atI, ixN, numV, numB]
def atV (i : Int) : List D := [.bl (decide (0 = i)), .bl (decide (1 = i)), .bl (decide (2 = i)), .bl (decide (3 = i)), .bl (decide (4 = i)), .bl (decide (5 = i)), .bl (decide (6 = i)), .bl (decide (7 = i)), .bl (decide (8 = i)), .bl (decide (9 = i))]
theorem eq_sorts {i : Int} (h : 0 ≤ i ∧ i ≤ 10) : eqD (.lst (sortsV i)) (.lst (atV i ++ [.bl true])) = some true := by
  rcases eleven h with rfl | rfl | rfl | rfl | rfl | rfl | rfl | rfl | rfl | rfl | rfl <;> decide +kernel
theorem at_loop (i : Int) (e0 e1 e2 e4 e5 e6 e7 e8 e9 e10 : Option Sv) (m : Mem) : loopC (.nm 11) fTrue (f2 gEq (fVar 11) (fVar 3)) [e0, e1, e2, some (.d (.int i)), e4, e5, e6, e7, e8, e9, e10, none] (rgD 0 10) [] m = some (atV i, m) := by
  have hr : rgD 0 10 = [.int 0, .int 1, .int 2, .int 3, .int 4, .int 5, .int 6, .int 7, .int 8, .int 9] := by rfl
  rw [hr]
  simp [loopC, setT, fTrue, f2, fVar, M.bd, M.ok, gEq, valD, eqD, toD, sizeLine_eq, atV]
def dueV (i n : Int) (s : Str) : D := if i = 0 ∨ i = 1 ∨ i = 4 ∨ i = 8 then .int n else if i = 2 ∨ i = 3 then .str s else if i = 10 then .str "base" else .str "none"
theorem eq_field {i n : Int} {s : Str} (h : 0 ≤ i ∧ i ≤ 10) : eqD (fieldV i n s) (dueV i n s) = some true := by
  rcases eleven h with rfl | rfl | rfl | rfl | rfl | rfl | rfl | rfl | rfl | rfl | rfl <;> simp [fieldV, dueV, eqD]
theorem due_call {i n : Int} {s : Str} (h : 0 ≤ i ∧ i ≤ 10) (m : Mem) {e0 e1 e6 e7 e8 e9 e10 e11 : Option Sv} : fGet2 (fDisp (pCons (fC (D.str "number")) (fVar 4) (pCons (fC (D.str "name")) (fVar 5) pNil))) (f2 gIx (fVar 2) (fVar 3)) (f2 gIx (fVar 2) (fVar 3))
      [e0, e1, some (.d duesD), some (.d (.int i)), some (.d (.int n)), some (.d (.str s)), e6, e7, e8, e9, e10, e11] m = some (.ok (.d (dueV i n s)), m) := by
  rcases eleven h with rfl | rfl | rfl | rfl | rfl | rfl | rfl | rfl | rfl | rfl | rfl <;> simp (decide := true) [fGet2, fDisp, pCons, pNil, fVar, fC, M.bd, M.ok, M.if, keyOf, toD, asDk, f2, gIx, asI, asL, asK, duesD, atI, ixN, gGet2, dkGet, dueV]
theorem strN_one (b : Bx) : ∀ n, ∀ a ∈ strN b n, a.length = 1
  | 0, a, h => by cases h
  | n + 1, a, h => by
    rcases List.mem_append.mp h with h | h
    · exact strN_one b n a h
    · rw [List.mem_singleton.mp h]
      rfl
theorem nm_short (b : Bx) : (nmS b).length ≤ 6 := by
  have h := takeV_in (b := b) (n := 7) (by omega)
  unfold nmS
  rw [PySem.W.KT.join_ones _ (strN_one _ _), strN_len]
  omega
theorem cut_last (z : Str) : cutS (z ++ "a") (some (-1)) none = "a" := by
  have hl : (z ++ ("a" : Str)).length = z.length + 1 := by
    show (z.cps ++ (Str.ofString "a").cps).size = _
    rw [Array.size_append]
    rfl
  unfold cutS
  rw [hl]
  have e1 : HT.sIx (z.length + 1) 0 (some (-1)) = z.length := by
    unfold HT.sIx
    simp
    omega
  have e2 : HT.sIx (z.length + 1) (z.length + 1) none = z.length + 1 := rfl
  rw [e1, e2]
  have e3 : (z ++ ("a" : Str)).cps.toList = z.cps.toList ++ [97] := by
    show (z.cps ++ (Str.ofString "a").cps).toList = _
    rw [Array.toList_append]
    rfl
  have e4 : z.length = z.cps.toList.length := by
    show z.cps.size = _
    simp
  rw [e3, e4, List.drop_left]
  simp
  rfl
theorem a_len : (Str.ofString "a").length = 1 := by decide +kernel
abbrev s__law_take : Stmt := top 14
abbrev N__law_take : List Str := ["_law_box_here", "_law_many", "_law_one", "_law_digit"]
theorem sc__law_take : FnScope N__law_take ["_law_box_here", "_law_many"] (defScope s__law_take) := ⟨rfl, rfl, rfl, by decide +kernel, rfl, by decide +kernel, by decide +kernel⟩
theorem d__law_take (F : Tf K mg "_law_take" s__law_take) (T : Bi mg) : Dg P w K mg base ⟨K, cl⟩ k__law_take "_law_take" 2 ct__law_take := by
  refine dg_mk (N := N__law_take) (ps := ["_law_box_here", "_law_many"]) (k := k__law_take - 1) F sc__law_take (fun _ _ _ _ _ _ us hl => match us, hl with | [_, _], _ => rfl) fin (.inl rfl) ⟨_, fun fa cdv A outer s H E1 hr tk po =>
      (iss_cons (is_if (it_gt (ie_ix rfl (ie_var 0 rfl (Or.inl rfl)) ie_int) ie_int) (iss_cons (is_set (i := 3) sc__law_take.nd rfl (Or.inl rfl) (ie_mod (ie_ix rfl (ie_var 0 rfl (Or.inl rfl)) ie_int) (ie_var 1 rfl (Or.inl rfl))))
      (iss_cons (is_setI (ie_div (ie_ix rfl (ie_var 0 rfl (Or.inl rfl)) ie_int) (ie_var 1 rfl (Or.inl rfl))) (ie_var 0 rfl (Or.inl rfl)) ie_int)
      (iss_one (is_ret (ie_var 3 rfl (Or.inl rfl)))))) iss_nil)
      (iss_cons (is_set (i := 2) sc__law_take.nd rfl (Or.inl rfl) (ie_mod (ie_mul (ie_ix rfl (ie_var 0 rfl (Or.inl rfl)) ie_int) ie_int) ie_int))
      (iss_cons (is_setI (ie_add false rfl (ie_mod (ie_add false rfl (ie_mul (ie_var 2 rfl (Or.inl rfl)) ie_int) ie_int) ie_int) ie_int) (ie_var 0 rfl (Or.inl rfl)) ie_int)
      (iss_one (is_ret (ie_mod (ie_div (ie_add false rfl (ie_mul (ie_var 2 rfl (Or.inl rfl)) ie_int) (ie_ix rfl (ie_var 0 rfl (Or.inl rfl)) ie_int)) ie_int) (ie_var 1 rfl (Or.inl rfl)))))))), ?_⟩ rfl
  intro args m r m' _ h
  unfold ct__law_take at h
  split at h
  · rename_i n c s hl
    split at h
    · rename_i hn
      cases h
      obtain ⟨hn0, hn1⟩ := hn
      by_cases hc : 0 < c
      · walk_at "ev"
      · walk_at "ev"
    · cases h
  · cases h
abbrev s__law_box : Stmt := top 13
abbrev N__law_box : List Str := ["_law_script", "_law_k", "_law_cell", "_law_seed"]
theorem sc__law_box : FnScope N__law_box ["_law_script", "_law_k"] (defScope s__law_box) := ⟨rfl, rfl, rfl, by decide +kernel, rfl, by decide +kernel, by decide +kernel⟩
theorem d__law_box (F : Tf K mg "_law_box" s__law_box) (T : Bi mg) : Dg P w K mg base ⟨K, cl⟩ k__law_box "_law_box" 2 ct__law_box := by
  refine dg_mk (N := N__law_box) (ps := ["_law_script", "_law_k"]) (k := k__law_box - 1) F sc__law_box (fun _ _ _ _ _ _ us hl => match us, hl with | [_, _], _ => rfl) finO (.inr rfl) ⟨_, fun fa cdv A outer s H E1 hr tk po =>
      (iss_cons (is_set (i := 2) sc__law_box.nd rfl (Or.inl rfl) (ie_add false rfl (ie_mul ie_int (ie_var 1 rfl (Or.inl rfl))) ie_int))
      (iss_cons (is_if (it_lt (ie_var 1 rfl (Or.inl rfl)) (ie_len rfl rfl T.b_len (ia_cons (ie_var 0 rfl (Or.inl rfl)) ia_nil))) (iss_one (is_set (i := 2) sc__law_box.nd rfl (Or.inl rfl) (ie_ix rfl (ie_var 0 rfl (Or.inl rfl)) (ie_var 1 rfl (Or.inl rfl))))) (iss_one (is_if (it_gt (ie_len rfl rfl T.b_len (ia_cons (ie_var 0 rfl (Or.inl rfl)) ia_nil)) ie_int) (iss_one (is_set (i := 2) sc__law_box.nd rfl (Or.inl rfl) (ie_add false rfl (ie_var 2 rfl (Or.inl rfl)) (ie_mul (ie_mod (ie_ix rfl (ie_var 0 rfl (Or.inl rfl)) (ie_mod (ie_var 1 rfl (Or.inl rfl)) (ie_len rfl rfl T.b_len (ia_cons (ie_var 0 rfl (Or.inl rfl)) ia_nil)))) ie_int) ie_int)))) iss_nil)))
      (iss_cons (is_set (i := 3) sc__law_box.nd rfl (Or.inl rfl) (ie_add false rfl (ie_mod (ie_add false rfl (ie_mul (ie_mod (ie_var 2 rfl (Or.inl rfl)) ie_int) ie_int) (ie_mul ie_int (ie_var 1 rfl (Or.inl rfl)))) ie_int) ie_int))
      (iss_one (is_ret (ie_lst true (ia_cons (ie_mul (ie_var 2 rfl (Or.inl rfl)) (ie_int1 rfl T.b_int (ia_cons (ie_ge (ie_var 2 rfl (Or.inl rfl)) (ie_pow ie_int ie_int)) ia_nil))) (ia_cons (ie_var 3 rfl (Or.inl rfl)) ia_nil)))))))), ?_⟩ rfl
  intro args m r m' _ h
  unfold ct__law_box at h
  split at h
  · rename_i ds k hl
    split at h
    · rename_i xs hx
      split at h
      · rename_i hk
        cases h
        obtain ⟨hk0, hk1, hk2⟩ := hk
        rw [intsOf_eq hx]
        have hkb : -18446744073709551616 < k ∧ k < 18446744073709551616 := by omega
        by_cases h1 : k < xs.length
        · have e1 := fun m => ix_ints (m := m) hk0 h1
          by_cases h2 : 1000000000000000000 ≤ nz xs k
          · walk_at "evx"
          · walk_at "evx"
        · by_cases h0 : 0 < xs.length
          · have h3 : 0 ≤ k % (xs.length : Int) := Int.emod_nonneg _ (by omega)
            have h4 : k % (xs.length : Int) < xs.length := Int.emod_lt_of_pos _ (by omega)
            have e1 := fun m => ix_ints (m := m) h3 h4
            by_cases h2 : 1000000000000000000 ≤ 7919 * k + 11 + nz xs (k % xs.length) % 2147483629 * 69623
            · walk_at "evx"
            · walk_at "evx"
          · by_cases h2 : 1000000000000000000 ≤ 7919 * k + 11
            · walk_at "evx"
            · walk_at "evx"
      · cases h
    · cases h
  · cases h
abbrev s__law_name : Stmt := top 18
abbrev N__law_name : List Str := ["_law_box_here", "_law_letters", "_law_k"]
theorem sc__law_name : FnScope N__law_name ["_law_box_here"] (defScope s__law_name) := ⟨rfl, rfl, rfl, by decide +kernel, rfl, by decide +kernel, by decide +kernel⟩
theorem d__law_name (F : Tf K mg "_law_name" s__law_name) (T : Bi mg) (d__law_take : Dg P w K mg base ⟨K, cl⟩ k__law_take "_law_take" 2 ct__law_take) : Dg P w K mg base ⟨K, cl⟩ k__law_name "_law_name" 1 ct__law_name := by
  refine dg_mk (N := N__law_name) (ps := ["_law_box_here"]) (k := k__law_name - 1) F sc__law_name (fun _ _ _ _ _ _ us hl => match us, hl with | [_], _ => rfl) fin (.inl rfl) ⟨_, fun fa cdv A outer s H E1 hr tk po =>
      (iss_cons (is_set (i := 1) sc__law_name.nd rfl (Or.inr rfl) ie_str)
      (iss_one (is_ret (ie_join rfl ie_str (ie_lc false (own := [("_law_k", 2)]) (t := (.nm 2)) rfl sc__law_name.nd io_rng1 (pi_range1 rfl T.b_range (ia_cons (ie_call (d__law_take.df hr) tk rfl (ia_cons (ie_var 0 rfl (Or.inr (Or.inl rfl))) (ia_cons ie_int ia_nil))) ia_nil)) (blkOk_by (N := N__law_name) (sc := defScope s__law_name) (by decide +kernel)) (by decide) (fun _ _ _ _ _ => (pT_nm (i := 2) sc__law_name.nd rfl (Or.inl rfl))) (fun _ _ _ _ _ => its_nil) (fun _ _ _ _ _ => (ie_ix rfl (ie_var 1 rfl (by first | exact Or.inl rfl | exact Or.inr (Or.inl rfl) | exact Or.inr (Or.inr rfl))) (ie_call (d__law_take.df hr) takes0 rfl (ia_cons (ie_var 0 rfl (by first | exact Or.inl rfl | exact Or.inr (Or.inl rfl) | exact Or.inr (Or.inr rfl))) (ia_cons ie_int ia_nil)))))))))), ?_⟩ rfl
  intro args m r m' _ h
  unfold ct__law_name at h
  split at h
  · rename_i c s hl
    cases h
    have h7 := takeV_in (b := (c, s)) (n := 7) (by omega)
    obtain ⟨n, hn⟩ : ∃ n : Nat, takeV (c, s) 7 = n := ⟨(takeV (c, s) 7).toNat, by omega⟩
    have e1 := take_call (b := (c, s)) (n := 7) (by omega) (by omega)
    have e2 := nm_loop n (by omega) (takeB (c, s) 7)
    have e3 := strN_len (takeB (c, s) 7) n
    have e4 := strN_sum (takeB (c, s) 7) n
    have e5 := strsOf_map (strN (takeB (c, s) 7) n)
    have e6 : nmS (c, s) = Txt.join "" (strN (takeB (c, s) 7) n) := by
      unfold nmS
      rw [hn]
      rfl
    have e7 : nmB (c, s) = boxN (takeB (c, s) 7) n := by
      unfold nmB
      rw [hn]
      rfl
    have hz : n ≤ 16777216 := by omega
    have hz2 : (n : Int) < 4611686018427387904 := by omega
    have e8 : (Str.ofString "").length = 0 := by decide +kernel
    rw [e6, e7]
    have e0 : [Mo.l [D.int c, D.int s]] = [bxD (c, s)] := rfl
    rw [e0]
    simp only [letters, feName] at e2
    simp [runB, sSeq, sE, sSet, sRt, fC, M.ok, M.bd, M.if, fJoin, asS, fLc, itRng1, fCons, fNil, fL, gLen, fVar, e1, hn, rg1, wipeE, e2, mkL, e3, e4, e5, sizeLine_eq, hz, hz2, gJoin, asQ, asL, fin, e8]
  · cases h
abbrev s__law_refuse : Stmt := top 15
abbrev N__law_refuse : List Str := ["_law_k", "_law_number", "_law_name_here"]
theorem sc__law_refuse : FnScope N__law_refuse ["_law_k", "_law_number", "_law_name_here"] (defScope s__law_refuse) := ⟨rfl, rfl, rfl, by decide +kernel, rfl, by decide +kernel, by decide +kernel⟩
theorem d__law_refuse (F : Tf K mg "_law_refuse" s__law_refuse) (T : Bi mg) (E : Ek K mg ⟨K, cl⟩ fldT) (N : Cn cl) (m_BadHouse : Mk P w K mg base ⟨K, cl⟩ "BadHouse" ["table"] (spI1 K "table")) (m_BadQuestion : Mk P w K mg base ⟨K, cl⟩ "BadQuestion" ["at"] (spI1 K "at")) (m_BadTable : Mk P w K mg base ⟨K, cl⟩ "BadTable" ["at"] (spI1 K "at")) (m_NoAnswer : Mk P w K mg base ⟨K, cl⟩ "NoAnswer" [] (spI0 K)) (m_NoCover : Mk P w K mg base ⟨K, cl⟩ "NoCover" ["column"] (spI1 K "column")) (m_NoEars : Mk P w K mg base ⟨K, cl⟩ "NoEars" [] (spI0 K)) (m_NoRing : Mk P w K mg base ⟨K, cl⟩ "NoRing" [] (spI0 K)) (m_NoRow : Mk P w K mg base ⟨K, cl⟩ "NoRow" [] (spI0 K)) (m_NoText : Mk P w K mg base ⟨K, cl⟩ "NoText" ["row"] (spI1 K "row")) (m_RowsError : MkB K mg ⟨K, cl⟩ "RowsError") (m_TooMany : Mk P w K mg base ⟨K, cl⟩ "TooMany" ["most"] (spI1 K "most")) : Dg P w K mg base ⟨K, cl⟩ k__law_refuse "_law_refuse" 3 ct__law_refuse := by
  refine dg_mk (N := N__law_refuse) (ps := ["_law_k", "_law_number", "_law_name_here"]) (k := k__law_refuse - 1) F sc__law_refuse (fun _ _ _ _ _ _ us hl => match us, hl with | [_, _, _], _ => rfl) fin (.inl rfl) ⟨_, fun fa cdv A outer s H E1 hr tk po =>
      (iss_cons (is_if (it_eq rfl hr.units (ie_var 0 rfl (Or.inl rfl)) ie_int) (iss_one (is_rz1 rfl m_BadTable (hr.mono (by decide)) rfl tk rfl (ia_cons (ie_var 1 rfl (Or.inl rfl)) ia_nil))) iss_nil)
      (iss_cons (is_if (it_eq rfl hr.units (ie_var 0 rfl (Or.inl rfl)) ie_int) (iss_one (is_rz1 rfl m_BadQuestion (hr.mono (by decide)) rfl tk rfl (ia_cons (ie_var 1 rfl (Or.inl rfl)) ia_nil))) iss_nil)
      (iss_cons (is_if (it_eq rfl hr.units (ie_var 0 rfl (Or.inl rfl)) ie_int) (iss_one (is_rz1 rfl m_BadHouse (hr.mono (by decide)) rfl tk rfl (ia_cons (ie_var 2 rfl (Or.inl rfl)) ia_nil))) iss_nil)
      (iss_cons (is_if (it_eq rfl hr.units (ie_var 0 rfl (Or.inl rfl)) ie_int) (iss_one (is_rz1 rfl m_NoCover (hr.mono (by decide)) rfl tk rfl (ia_cons (ie_var 2 rfl (Or.inl rfl)) ia_nil))) iss_nil)
      (iss_cons (is_if (it_eq rfl hr.units (ie_var 0 rfl (Or.inl rfl)) ie_int) (iss_one (is_rz1 rfl m_TooMany (hr.mono (by decide)) rfl tk rfl (ia_cons (ie_var 1 rfl (Or.inl rfl)) ia_nil))) iss_nil)
      (iss_cons (is_if (it_eq rfl hr.units (ie_var 0 rfl (Or.inl rfl)) ie_int) (iss_one (is_rz0 rfl m_NoRing (hr.mono (by decide)) rfl tk rfl)) iss_nil)
      (iss_cons (is_if (it_eq rfl hr.units (ie_var 0 rfl (Or.inl rfl)) ie_int) (iss_one (is_rz0 rfl m_NoEars (hr.mono (by decide)) rfl tk rfl)) iss_nil)
      (iss_cons (is_if (it_eq rfl hr.units (ie_var 0 rfl (Or.inl rfl)) ie_int) (iss_one (is_rz0 rfl m_NoAnswer (hr.mono (by decide)) rfl tk rfl)) iss_nil)
      (iss_cons (is_if (it_eq rfl hr.units (ie_var 0 rfl (Or.inl rfl)) ie_int) (iss_one (is_rz1 rfl m_NoText (hr.mono (by decide)) rfl tk rfl (ia_cons (ie_var 1 rfl (Or.inl rfl)) ia_nil))) iss_nil)
      (iss_cons (is_if (it_eq rfl hr.units (ie_var 0 rfl (Or.inl rfl)) ie_int) (iss_one (is_rz0 rfl m_NoRow (hr.mono (by decide)) rfl tk rfl)) iss_nil)
      (iss_one (is_rzb m_RowsError rfl tk rfl (ia_cons (ie_var 2 rfl (Or.inl rfl)) ia_nil))))))))))))), ?_⟩ rfl
  intro args m r m' _ h
  unfold ct__law_refuse at h
  split at h
  · rename_i k n s hl
    split at h
    · rename_i hk
      cases h
      rcases eleven hk with rfl | rfl | rfl | rfl | rfl | rfl | rfl | rfl | rfl | rfl | rfl <;> walk_at "ev"
    · cases h
  · cases h
abbrev s__law_sorts : Stmt := top 16
abbrev N__law_sorts : List Str := ["_law_k", "_law_number", "_law_name_here", "_law_found", "e"]
theorem sc__law_sorts : FnScope N__law_sorts ["_law_k", "_law_number", "_law_name_here"] (defScope s__law_sorts) := ⟨rfl, rfl, rfl, by decide +kernel, rfl, by decide +kernel, by decide +kernel⟩
theorem d__law_sorts (F : Tf K mg "_law_sorts" s__law_sorts) (T : Bi mg) (E : Ek K mg ⟨K, cl⟩ fldT) (N : Cn cl) (d__law_refuse : Dg P w K mg base ⟨K, cl⟩ k__law_refuse "_law_refuse" 3 ct__law_refuse) : Dg P w K mg base ⟨K, cl⟩ k__law_sorts "_law_sorts" 3 ct__law_sorts := by
  refine dg_mk (N := N__law_sorts) (ps := ["_law_k", "_law_number", "_law_name_here"]) (k := k__law_sorts - 1) F sc__law_sorts (fun _ _ _ _ _ _ us hl => match us, hl with | [_, _, _], _ => rfl) fin (.inl rfl) ⟨_, fun fa cdv A outer s H E1 hr tk po =>
      (iss_cons (is_set (i := 3) sc__law_sorts.nd rfl (Or.inl rfl) (ie_lst false ia_nil))
      (iss_cons (is_try sc__law_sorts.nd tk (fun W1 pn1 xe1 tk po => (iss_one (is_expr (ie_call (d__law_refuse.df hr) tk rfl (ia_cons (ie_var 0 rfl (Or.inl rfl)) (ia_cons (ie_var 1 rfl (Or.inl rfl)) (ia_cons (ie_var 2 rfl (Or.inl rfl)) ia_nil))))))) (hdk (hd_1 E N.h_RowsError rfl) (.inr ⟨_, 4, rfl, rfl, rfl, rfl⟩) (fun a oe d c C pn rfll htst hz hf => (iss_cons (is_set (i := 3) sc__law_sorts.nd rfl (Or.inl rfl) (ie_lst false (ia_cons (ie_isx (cv := .ref N.BadTable) (E.ec c C rfll) hz hf (fun _ h => h) (E.kit c C "BadTable" N.BadTable rfll N.h_BadTable) rfl T.b_isinstance (ia_cons (ie_var 4 rfl (Or.inl rfl)) (ia_cons (ie_glob (v := .ref N.BadTable) (d := .raw (.ref N.BadTable)) rfl (E.mgc _ _ N.h_BadTable) rfl (fun _ => .raw _)) ia_nil))) (ia_cons (ie_isx (cv := .ref N.BadQuestion) (E.ec c C rfll) hz hf (fun _ h => h) (E.kit c C "BadQuestion" N.BadQuestion rfll N.h_BadQuestion) rfl T.b_isinstance (ia_cons (ie_var 4 rfl (Or.inl rfl)) (ia_cons (ie_glob (v := .ref N.BadQuestion) (d := .raw (.ref N.BadQuestion)) rfl (E.mgc _ _ N.h_BadQuestion) rfl (fun _ => .raw _)) ia_nil))) (ia_cons (ie_isx (cv := .ref N.BadHouse) (E.ec c C rfll) hz hf (fun _ h => h) (E.kit c C "BadHouse" N.BadHouse rfll N.h_BadHouse) rfl T.b_isinstance (ia_cons (ie_var 4 rfl (Or.inl rfl)) (ia_cons (ie_glob (v := .ref N.BadHouse) (d := .raw (.ref N.BadHouse)) rfl (E.mgc _ _ N.h_BadHouse) rfl (fun _ => .raw _)) ia_nil))) (ia_cons (ie_isx (cv := .ref N.NoCover) (E.ec c C rfll) hz hf (fun _ h => h) (E.kit c C "NoCover" N.NoCover rfll N.h_NoCover) rfl T.b_isinstance (ia_cons (ie_var 4 rfl (Or.inl rfl)) (ia_cons (ie_glob (v := .ref N.NoCover) (d := .raw (.ref N.NoCover)) rfl (E.mgc _ _ N.h_NoCover) rfl (fun _ => .raw _)) ia_nil))) ia_nil))))))
      (iss_cons (is_set (i := 3) sc__law_sorts.nd rfl (Or.inl rfl) (ie_add false rfl (ie_var 3 rfl (Or.inl rfl)) (ie_lst false (ia_cons (ie_isx (cv := .ref N.TooMany) (E.ec c C rfll) hz hf (fun _ h => h) (E.kit c C "TooMany" N.TooMany rfll N.h_TooMany) rfl T.b_isinstance (ia_cons (ie_var 4 rfl (Or.inl rfl)) (ia_cons (ie_glob (v := .ref N.TooMany) (d := .raw (.ref N.TooMany)) rfl (E.mgc _ _ N.h_TooMany) rfl (fun _ => .raw _)) ia_nil))) (ia_cons (ie_isx (cv := .ref N.NoRing) (E.ec c C rfll) hz hf (fun _ h => h) (E.kit c C "NoRing" N.NoRing rfll N.h_NoRing) rfl T.b_isinstance (ia_cons (ie_var 4 rfl (Or.inl rfl)) (ia_cons (ie_glob (v := .ref N.NoRing) (d := .raw (.ref N.NoRing)) rfl (E.mgc _ _ N.h_NoRing) rfl (fun _ => .raw _)) ia_nil))) (ia_cons (ie_isx (cv := .ref N.NoEars) (E.ec c C rfll) hz hf (fun _ h => h) (E.kit c C "NoEars" N.NoEars rfll N.h_NoEars) rfl T.b_isinstance (ia_cons (ie_var 4 rfl (Or.inl rfl)) (ia_cons (ie_glob (v := .ref N.NoEars) (d := .raw (.ref N.NoEars)) rfl (E.mgc _ _ N.h_NoEars) rfl (fun _ => .raw _)) ia_nil))) (ia_cons (ie_isx (cv := .ref N.NoAnswer) (E.ec c C rfll) hz hf (fun _ h => h) (E.kit c C "NoAnswer" N.NoAnswer rfll N.h_NoAnswer) rfl T.b_isinstance (ia_cons (ie_var 4 rfl (Or.inl rfl)) (ia_cons (ie_glob (v := .ref N.NoAnswer) (d := .raw (.ref N.NoAnswer)) rfl (E.mgc _ _ N.h_NoAnswer) rfl (fun _ => .raw _)) ia_nil))) ia_nil)))))))
      (iss_one (is_set (i := 3) sc__law_sorts.nd rfl (Or.inl rfl) (ie_add false rfl (ie_var 3 rfl (Or.inl rfl)) (ie_lst false (ia_cons (ie_isx (cv := .ref N.NoText) (E.ec c C rfll) hz hf (fun _ h => h) (E.kit c C "NoText" N.NoText rfll N.h_NoText) rfl T.b_isinstance (ia_cons (ie_var 4 rfl (Or.inl rfl)) (ia_cons (ie_glob (v := .ref N.NoText) (d := .raw (.ref N.NoText)) rfl (E.mgc _ _ N.h_NoText) rfl (fun _ => .raw _)) ia_nil))) (ia_cons (ie_isx (cv := .ref N.NoRow) (E.ec c C rfll) hz hf (fun _ h => h) (E.kit c C "NoRow" N.NoRow rfll N.h_NoRow) rfl T.b_isinstance (ia_cons (ie_var 4 rfl (Or.inl rfl)) (ia_cons (ie_glob (v := .ref N.NoRow) (d := .raw (.ref N.NoRow)) rfl (E.mgc _ _ N.h_NoRow) rfl (fun _ => .raw _)) ia_nil))) (ia_cons (ie_isx (cv := .ty "ValueError") (E.ec c C rfll) hz hf (fun _ h => h) (E.kitV c C rfll) rfl T.b_isinstance (ia_cons (ie_var 4 rfl (Or.inl rfl)) (ia_cons (ie_bltn (v := .ty "ValueError") rfl T.b_ValueError (by first | rfl | boot_by_name) rfl) ia_nil))) ia_nil))))))))))
      .nil))
      (iss_one (is_ret (ie_var 3 rfl (Or.inl rfl)))))), ?_⟩ rfl
  intro args m r m' _ h
  unfold ct__law_sorts at h
  split at h
  · rename_i k n s hl
    split at h
    · rename_i hk
      cases h
      rcases eleven hk with rfl | rfl | rfl | rfl | rfl | rfl | rfl | rfl | rfl | rfl | rfl <;> walk_at "evt"
    · cases h
  · cases h
abbrev s__law_field : Stmt := top 17
abbrev N__law_field : List Str := ["_law_k", "_law_number", "_law_name_here", "_law_found", "e"]
theorem sc__law_field : FnScope N__law_field ["_law_k", "_law_number", "_law_name_here"] (defScope s__law_field) := ⟨rfl, rfl, rfl, by decide +kernel, rfl, by decide +kernel, by decide +kernel⟩
theorem d__law_field (F : Tf K mg "_law_field" s__law_field) (T : Bi mg) (E : Ek K mg ⟨K, cl⟩ fldT) (N : Cn cl) (d__law_refuse : Dg P w K mg base ⟨K, cl⟩ k__law_refuse "_law_refuse" 3 ct__law_refuse) : Dg P w K mg base ⟨K, cl⟩ k__law_field "_law_field" 3 ct__law_field := by
  refine dg_mk (N := N__law_field) (ps := ["_law_k", "_law_number", "_law_name_here"]) (k := k__law_field - 1) F sc__law_field (fun _ _ _ _ _ _ us hl => match us, hl with | [_, _, _], _ => rfl) fin (.inl rfl) ⟨_, fun fa cdv A outer s H E1 hr tk po =>
      (iss_cons (is_set (i := 3) sc__law_field.nd rfl (Or.inl rfl) ie_non)
      (iss_cons (is_try sc__law_field.nd tk (fun W1 pn1 xe1 tk po => (iss_one (is_expr (ie_call (d__law_refuse.df hr) tk rfl (ia_cons (ie_var 0 rfl (Or.inl rfl)) (ia_cons (ie_var 1 rfl (Or.inl rfl)) (ia_cons (ie_var 2 rfl (Or.inl rfl)) ia_nil))))))) (hdk (hd_2 E N.h_BadTable N.h_BadQuestion rfl rfl) (.inr ⟨_, 4, rfl, rfl, rfl, rfl⟩) (fun a oe d c C pn rfll htst hz hf => (iss_one (is_set (i := 3) sc__law_field.nd rfl (Or.inl rfl) (ie_fld rfl (E.ec c C rfll) (E.no c C "at" rfll (fld_2 htst (by decide) (by decide) (by decide) (by decide))) hz hf (ie_var 4 rfl (Or.inl rfl))))))
      (hdk (hd_1 E N.h_BadHouse rfl) (.inr ⟨_, 4, rfl, rfl, rfl, rfl⟩) (fun a oe d c C pn rfll htst hz hf => (iss_one (is_set (i := 3) sc__law_field.nd rfl (Or.inl rfl) (ie_fld rfl (E.ec c C rfll) (E.no c C "table" rfll (fld_1 htst (by decide) (by decide))) hz hf (ie_var 4 rfl (Or.inl rfl))))))
      (hdk (hd_1 E N.h_NoCover rfl) (.inr ⟨_, 4, rfl, rfl, rfl, rfl⟩) (fun a oe d c C pn rfll htst hz hf => (iss_one (is_set (i := 3) sc__law_field.nd rfl (Or.inl rfl) (ie_fld rfl (E.ec c C rfll) (E.no c C "column" rfll (fld_1 htst (by decide) (by decide))) hz hf (ie_var 4 rfl (Or.inl rfl))))))
      (hdk (hd_1 E N.h_TooMany rfl) (.inr ⟨_, 4, rfl, rfl, rfl, rfl⟩) (fun a oe d c C pn rfll htst hz hf => (iss_one (is_set (i := 3) sc__law_field.nd rfl (Or.inl rfl) (ie_fld rfl (E.ec c C rfll) (E.no c C "most" rfll (fld_1 htst (by decide) (by decide))) hz hf (ie_var 4 rfl (Or.inl rfl))))))
      (hdk (hd_1 E N.h_NoText rfl) (.inr ⟨_, 4, rfl, rfl, rfl, rfl⟩) (fun a oe d c C pn rfll htst hz hf => (iss_one (is_set (i := 3) sc__law_field.nd rfl (Or.inl rfl) (ie_fld rfl (E.ec c C rfll) (E.no c C "row" rfll (fld_1 htst (by decide) (by decide))) hz hf (ie_var 4 rfl (Or.inl rfl))))))
      (hdk (hd_4 E N.h_NoRing N.h_NoEars N.h_NoAnswer N.h_NoRow rfl rfl rfl rfl) (.inl ⟨rfl, rfl⟩) (fun a oe d c C pn rfll htst hz hf => (iss_one (is_set (i := 3) sc__law_field.nd rfl (Or.inl rfl) ie_str)))
      (hdk (hd_1 E N.h_RowsError rfl) (.inl ⟨rfl, rfl⟩) (fun a oe d c C pn rfll htst hz hf => (iss_one (is_set (i := 3) sc__law_field.nd rfl (Or.inl rfl) ie_str)))
      .nil))))))))
      (iss_one (is_ret (ie_var 3 rfl (Or.inl rfl)))))), ?_⟩ rfl
  intro args m r m' _ h
  unfold ct__law_field at h
  split at h
  · rename_i k n s hl
    split at h
    · rename_i hk
      cases h
      rcases eleven hk with rfl | rfl | rfl | rfl | rfl | rfl | rfl | rfl | rfl | rfl | rfl <;> walk_at "evt"
    · cases h
  · cases h
abbrev s_law : Stmt := top 19
abbrev N_law : List Str := ["_law_script", "_law_box_here", "_law_dues", "_law_k", "_law_number", "_law_name_here", "_law_due", "_law_one", "_law_other", "_law_first", "_law_second", "_law_at"]
theorem sc_law : FnScope N_law ["_law_script"] (defScope s_law) := ⟨rfl, rfl, rfl, by decide +kernel, rfl, by decide +kernel, by decide +kernel⟩
theorem d_law {f : Addr} {fd : FuncData} (F : Fun K "law" "law" s_law f fd) (T : Bi mg) (E : Ek K mg ⟨K, cl⟩ fldT) (N : Cn cl) (d__law_box : Dg P w K mg base ⟨K, cl⟩ k__law_box "_law_box" 2 ct__law_box) (d__law_field : Dg P w K mg base ⟨K, cl⟩ k__law_field "_law_field" 3 ct__law_field) (d__law_name : Dg P w K mg base ⟨K, cl⟩ k__law_name "_law_name" 1 ct__law_name) (d__law_sorts : Dg P w K mg base ⟨K, cl⟩ k__law_sorts "_law_sorts" 3 ct__law_sorts) (d__law_take : Dg P w K mg base ⟨K, cl⟩ k__law_take "_law_take" 2 ct__law_take) (m_BadHouse : Mk P w K mg base ⟨K, cl⟩ "BadHouse" ["table"] (spI1 K "table")) (m_NoText : Mk P w K mg base ⟨K, cl⟩ "NoText" ["row"] (spI1 K "row")) : FnOk P w K mg base (L2.CX P w) k_law f fd ["_law_script"] (spCt ⟨K, cl⟩ 1 ct_law) := by
  refine dg_fn (N := N_law) (ps := ["_law_script"]) (k := k_law - 1) F sc_law fin (.inl rfl) ⟨_, fun fa cdv A outer s H E1 hr tk po =>
      (iss_cons (is_set (i := 1) sc_law.nd rfl (Or.inl rfl) (ie_call (d__law_box.df hr) tk rfl (ia_cons (ie_var 0 rfl (Or.inl rfl)) (ia_cons ie_int ia_nil))))
      (iss_cons (is_set (i := 2) sc_law.nd rfl (Or.inl rfl) (ie_lst false (ia_cons ie_str (ia_cons ie_str (ia_cons ie_str (ia_cons ie_str (ia_cons ie_str (ia_cons ie_str (ia_cons ie_str (ia_cons ie_str (ia_cons ie_str (ia_cons ie_str (ia_cons ie_str ia_nil)))))))))))))
      (iss_cons (is_for (t := (.nm 3)) po rfl io_seq (pi_seq rfl (ie_add false rfl (ie_listRg1 false rfl rfl T.b_list rfl T.b_range ie_int) (ie_lst false (ia_cons (ie_call (d__law_take.df hr) tk rfl (ia_cons (ie_var 1 rfl (Or.inl rfl)) (ia_cons ie_int ia_nil))) (ia_cons ie_int ia_nil))))) (pT_nm (i := 3) sc_law.nd rfl (Or.inr rfl)) (iss_cons (is_set (i := 4) sc_law.nd rfl (Or.inl rfl) (ie_ix rfl (ie_lst false (ia_cons (ie_sub (ie_call (d__law_take.df hr) tk rfl (ia_cons (ie_var 1 rfl (Or.inl rfl)) (ia_cons ie_int ia_nil))) ie_int) (ia_cons (ie_call (d__law_take.df hr) tk rfl (ia_cons (ie_var 1 rfl (Or.inl rfl)) (ia_cons (ie_pow ie_int ie_int) ia_nil))) ia_nil))) (ie_call (d__law_take.df hr) tk rfl (ia_cons (ie_var 1 rfl (Or.inl rfl)) (ia_cons ie_int ia_nil)))))
      (iss_cons (is_set (i := 5) sc_law.nd rfl (Or.inl rfl) (ie_call (d__law_name.df hr) tk rfl (ia_cons (ie_var 1 rfl (Or.inl rfl)) ia_nil)))
      (iss_cons (is_if (it_ne rfl hr.units (ie_call (d__law_sorts.df hr) tk rfl (ia_cons (ie_var 3 rfl (Or.inr (Or.inl rfl))) (ia_cons (ie_var 4 rfl (Or.inl rfl)) (ia_cons (ie_var 5 rfl (Or.inl rfl)) ia_nil)))) (ie_add false rfl (ie_lc false (own := [("_law_at", 11)]) (t := (.nm 11)) rfl sc_law.nd io_rng1 (pi_range1 rfl T.b_range (ia_cons ie_int ia_nil)) (blkOk_by (N := N_law) (sc := defScope s_law) (by decide +kernel)) (by decide) (fun _ _ _ _ _ => (pT_nm (i := 11) sc_law.nd rfl (Or.inl rfl))) (fun _ _ _ _ _ => its_nil) (fun _ _ _ _ _ => (ie_eq rfl hr.units (ie_var 11 rfl (Or.inl rfl)) (ie_var 3 rfl (by first | exact Or.inl rfl | exact Or.inr (Or.inl rfl) | exact Or.inr (Or.inr rfl)))))) (ie_lst false (ia_cons ie_bl ia_nil)))) (iss_one (is_ret ie_bl)) iss_nil)
      (iss_cons (is_set (i := 6) sc_law.nd rfl (Or.inl rfl) (ie_get2 hr.units (ie_disp (ipp_cons ie_str (ie_var 4 rfl (Or.inl rfl)) (ipp_cons ie_str (ie_var 5 rfl (Or.inl rfl)) ipp_nil)) rfl rfl (by simp) (by decide)) (ie_ix rfl (ie_var 2 rfl (Or.inl rfl)) (ie_var 3 rfl (Or.inr (Or.inl rfl)))) (ie_ix rfl (ie_var 2 rfl (Or.inl rfl)) (ie_var 3 rfl (Or.inr (Or.inl rfl)))) ⟨rfl, rfl, rfl, rfl⟩))
      (iss_one (is_if (it_ne rfl hr.units (ie_call (d__law_field.df hr) tk rfl (ia_cons (ie_var 3 rfl (Or.inr (Or.inl rfl))) (ia_cons (ie_var 4 rfl (Or.inl rfl)) (ia_cons (ie_var 5 rfl (Or.inl rfl)) ia_nil)))) (ie_var 6 rfl (Or.inl rfl))) (iss_one (is_ret ie_bl)) iss_nil)))))))
      (iss_cons (is_par2 (i := 7) (j := 8) rfl sc_law.nd rfl rfl (by decide) rfl rfl (ia_cons (ie_exv rfl m_NoText (hr.mono (by decide)) rfl (ia_cons (ie_call (d__law_take.df hr) tk rfl (ia_cons (ie_var 1 rfl (Or.inl rfl)) (ia_cons ie_int ia_nil))) ia_nil)) (ia_cons (ie_exv rfl m_NoText (hr.mono (by decide)) rfl (ia_cons (ie_add false rfl ie_int (ie_call (d__law_take.df hr) tk rfl (ia_cons (ie_var 1 rfl (Or.inl rfl)) (ia_cons ie_int ia_nil)))) ia_nil)) ia_nil)))
      (iss_cons (is_par2 (i := 9) (j := 10) rfl sc_law.nd rfl rfl (by decide) rfl rfl (ia_cons (ie_exv rfl m_BadHouse (hr.mono (by decide)) rfl (ia_cons (ie_add false rfl (ie_call (d__law_name.df hr) tk rfl (ia_cons (ie_var 1 rfl (Or.inl rfl)) ia_nil)) ie_str) ia_nil)) (ia_cons (ie_exv rfl m_BadHouse (hr.mono (by decide)) rfl (ia_cons ie_str ia_nil)) ia_nil)))
      (iss_one (is_ret (ie_and (ie_lt (ie_att rfl (ie_var 7 rfl (Or.inl rfl))) (ie_att rfl (ie_var 8 rfl (Or.inl rfl)))) (ie_and (ie_eq rfl hr.units (ie_sl false rfl (ie_att rfl (ie_var 9 rfl (Or.inl rfl))) (io_some (ie_neg ie_int)) io_none) ie_str) (ie_one (ie_eq rfl hr.units (ie_att rfl (ie_var 10 rfl (Or.inl rfl))) ie_str))))))))))), ?_⟩ rfl
  intro args m r m' _ h
  unfold ct_law at h
  split at h
  · rename_i ds hl
    split at h
    · rename_i xs hx
      split at h
      · rename_i hk
        cases h
        refine run_g (R := fun o => ∃ m2, o = (.rt (.d (.bl true)), m2)) ?_ (by rintro _ ⟨m2, rfl⟩; rfl)
        refine Gs.to (sq_set (x := .r 0) (m1 := [bxD (boxV xs 0)]) ?_ rfl) ?_
        · simp [fL, fCons, fVar, fC, fNil, gLen, M.bd, M.ok, M.if, gCall, refsOf, renum, getAll, putAll, ct__law_box, hx, hk]
        refine Gs.to (sq_set (x := .d duesD) (m1 := [bxD (boxV xs 0)]) ?_ rfl) ?_
        · simp [fL, fCons, fC, fNil, M.bd, M.ok, gLst, mkL, toDs, toD, sizeLine_eq, duesD]
        generalize boxV xs 0 = b0
        have t0 := take_call (b := b0) (n := 11) (by omega) (by omega)
        refine gs_for (items := [.int 0, .int 1, .int 2, .int 3, .int 4, .int 5, .int 6, .int 7, .int 8, .int 9, .int 10, .int (takeV b0 11), .int 0]) (m1 := [bxD (takeB b0 11)]) (PL ds) ?_ ⟨_, _, _, _, _, _, _, _, _, _, rfl, rfl⟩ ?_ ?_
        · have hr : rgD 0 11 = [.int 0, .int 1, .int 2, .int 3, .int 4, .int 5, .int 6, .int 7, .int 8, .int 9, .int 10] := by rfl
          simp [itSeq, fLRg1, f2, gAdd, fL, fCons, fVar, fC, fNil, gLen, M.bd, M.ok, M.if, t0, asI, mkL, gLst, toDs, toD, asK, sizeLine_eq, itemsD, hr]
        · rintro k d env m hd ⟨b, x3, x4, x5, x6, x7, x8, x9, x10, x11, rfl, rfl⟩
          obtain ⟨i, rfl, hi⟩ : ∃ i, d = .int i ∧ 0 ≤ i ∧ i ≤ 10 := by
            have h11 := takeV_in (b := b0) (n := 11) (by omega)
            have hm := List.mem_of_getElem? hd
            simp at hm
            rcases hm with rfl | rfl | rfl | rfl | rfl | rfl | rfl | rfl | rfl | rfl | rfl | rfl | rfl <;> exact ⟨_, rfl, by omega, by omega⟩
          refine ⟨_, rfl, ?_⟩
          refine Gs.to (sq_set (x := .d (.int (numV b))) (m1 := [bxD (numB b)]) ?_ rfl) ?_
          · exact num_call b _ _
          refine Gs.to (sq_set (x := .d (.str (nmS (numB b)))) (m1 := [bxD (nmB (numB b))]) ?_ rfl) ?_
          · simp [fL, fCons, fVar, fNil, gLen, M.bd, M.ok, M.if, name_call]
          generalize numV b = n
          generalize nmS (numB b) = s
          generalize nmB (numB b) = b1
          refine Gs.to ((sq_iff (m1 := [bxD b1]) ?_ rfl).trans sq_nx) ?_
          · have e1 := sorts_call (s := s) (n := n) hi [bxD b1]
            have e2 := eq_sorts hi
            have e3 := at_loop i
            have e4 : (atV i).length = 10 := rfl
            simp [fB, f2, fL, fCons, fVar, fC, fNil, gLen, M.bd, M.ok, M.if, e1, fLc, itRng1, rg1, wipeE, e3, mkL, sizeLine_eq, gAdd, asK, gLst, toDs, toD, gNe, valD, asB, e4, e2]
            trace_state
          refine Gs.to (sq_set (x := .d (dueV i n s)) (m1 := [bxD b1]) ?_ rfl) ?_
          · exact due_call hi _
          refine Gs.to (s_iff (m1 := [bxD b1]) ?_ rfl) ⟨_, rfl, _, rfl, _, _, _, _, _, _, _, _, _, _, rfl, rfl⟩
          · have e1 := field_call (s := s) (n := n) hi [bxD b1]
            have e2 := eq_field (s := s) (n := n) hi
            simp [fB, f2, fL, fCons, fVar, fC, fNil, gLen, M.bd, M.ok, M.if, e1, gNe, valD, e2, asB]
        · rintro env m ⟨b, x3, x4, x5, x6, x7, x8, x9, x10, x11, rfl, rfl⟩
          have t1 := take_call (b := b) (n := 50) (by omega) (by omega)
          have t2 := take_call (b := takeB b 50) (n := 50) (by omega) (by omega)
          refine Gs.to (sq_par (x := .d (.ex ["row"] [.int (takeV b 50)])) (y := .d (.ex ["row"] [.int (50 + takeV (takeB b 50) 50)])) (m1 := [bxD (takeB (takeB b 50) 50)]) ?_ rfl) ?_
          · simp [fEx, fL, fCons, fVar, fC, fNil, gLen, M.bd, M.ok, M.if, f2, gAdd, t1, t2, toD]
          generalize takeB (takeB b 50) 50 = b2
          have e1 := name_call b2
          have z1 := nm_short b2
          refine Gs.to (sq_par (x := .d (.ex ["table"] [.str (nmS b2 ++ "a")])) (y := .d (.ex ["table"] [.str "b"])) (m1 := [bxD (nmB b2)]) ?_ rfl) ?_
          · simp [fEx, fL, fCons, fVar, fC, fNil, gLen, M.bd, M.ok, M.if, f2, gAdd, e1, toD, sizeLine_eq, a_len, (by omega : (nmS b2).length + 1 ≤ 16777216)]
          refine Gs.to (s_ret (x := .d (.bl true)) (m1 := [bxD (nmB b2)]) ?_) ⟨_, rfl, _, rfl⟩
          have h1 := takeV_in (b := b) (n := 50) (by omega)
          have h2 := takeV_in (b := takeB b 50) (n := 50) (by omega)
          have h3 : takeV b 50 < 50 + takeV (takeB b 50) 50 := by omega
          have h4 : (nmS b2 ++ Str.ofString "a").length ≤ 16777216 := by
            have e : (nmS b2 ++ Str.ofString "a").length = (nmS b2).length + (Str.ofString "a").length := by
              show ((nmS b2).cps ++ (Str.ofString "a").cps).size = _
              rw [Array.size_append]
              rfl
            rw [e, a_len]
            omega
          simp [fAndV, f2, fVar, fC, M.bd, M.ok, M.if, gAtt, fldOf, gLt, fSl, fOS, fON, f1, gNeg, asI, gII, asB, gSl, cut_last, sizeLine_eq, h4, gEq, valD, eqD, h3]
          trace_state
      · cases h
    · cases h
  · cases h

theorem isc_BadTable : FnScope ["self", "at"] ["self", "at"] (defScope (ini 2)) := ⟨rfl, rfl, rfl, by decide +kernel, rfl, by decide +kernel, by decide +kernel⟩
theorem i_BadTable {f : Addr} {fd : FuncData} (F : Fun K "__init__" "BadTable.__init__" (ini 2) f fd) (R : Rt K mg "RowsError") : FnOk P w K mg base (L2.CX P w) 1 f fd ["self", "at"] (spI1 K "at") ∧ Binds K fd ["self", "at"] [] := by
  refine ⟨F.okX isc_BadTable (fun vs H Q E h => ?_) (fun cdv A outer s H vs Q E hr h => ⟨_, pss_cons (ps_expr (pe_rinit R rfl (pa_cons (pv 0) (pa_cons pe_str pa_nil)))) (pss_one (ps_ost (pv 0) (pv 1))), ?_⟩), F.binds fun _ _ _ _ _ _ us hl => match us, hl with | [_, _], _ => rfl⟩
  · obtain ⟨a, C, y, rfl, _⟩ := h
    rfl
  · obtain ⟨a, C, y, rfl, T, hno, ea, q⟩ := h
    exact ⟨_, rfl, a, C, _, rfl, by decide, T, ea, _, rfl, _, rfl, a, C, rfl, T, hno, .inl ⟨ea, q⟩⟩
theorem isc_BadQuestion : FnScope ["self", "at"] ["self", "at"] (defScope (ini 3)) := ⟨rfl, rfl, rfl, by decide +kernel, rfl, by decide +kernel, by decide +kernel⟩
theorem i_BadQuestion {f : Addr} {fd : FuncData} (F : Fun K "__init__" "BadQuestion.__init__" (ini 3) f fd) (R : Rt K mg "RowsError") : FnOk P w K mg base (L2.CX P w) 1 f fd ["self", "at"] (spI1 K "at") ∧ Binds K fd ["self", "at"] [] := by
  refine ⟨F.okX isc_BadQuestion (fun vs H Q E h => ?_) (fun cdv A outer s H vs Q E hr h => ⟨_, pss_cons (ps_expr (pe_rinit R rfl (pa_cons (pv 0) (pa_cons pe_str pa_nil)))) (pss_one (ps_ost (pv 0) (pv 1))), ?_⟩), F.binds fun _ _ _ _ _ _ us hl => match us, hl with | [_, _], _ => rfl⟩
  · obtain ⟨a, C, y, rfl, _⟩ := h
    rfl
  · obtain ⟨a, C, y, rfl, T, hno, ea, q⟩ := h
    exact ⟨_, rfl, a, C, _, rfl, by decide, T, ea, _, rfl, _, rfl, a, C, rfl, T, hno, .inl ⟨ea, q⟩⟩
theorem isc_BadHouse : FnScope ["self", "table"] ["self", "table"] (defScope (ini 4)) := ⟨rfl, rfl, rfl, by decide +kernel, rfl, by decide +kernel, by decide +kernel⟩
theorem i_BadHouse {f : Addr} {fd : FuncData} (F : Fun K "__init__" "BadHouse.__init__" (ini 4) f fd) (R : Rt K mg "RowsError") : FnOk P w K mg base (L2.CX P w) 1 f fd ["self", "table"] (spI1 K "table") ∧ Binds K fd ["self", "table"] [] := by
  refine ⟨F.okX isc_BadHouse (fun vs H Q E h => ?_) (fun cdv A outer s H vs Q E hr h => ⟨_, pss_cons (ps_expr (pe_rinit R rfl (pa_cons (pv 0) (pa_cons pe_str pa_nil)))) (pss_one (ps_ost (pv 0) (pv 1))), ?_⟩), F.binds fun _ _ _ _ _ _ us hl => match us, hl with | [_, _], _ => rfl⟩
  · obtain ⟨a, C, y, rfl, _⟩ := h
    rfl
  · obtain ⟨a, C, y, rfl, T, hno, ea, q⟩ := h
    exact ⟨_, rfl, a, C, _, rfl, by decide, T, ea, _, rfl, _, rfl, a, C, rfl, T, hno, .inl ⟨ea, q⟩⟩
theorem isc_NoCover : FnScope ["self", "column"] ["self", "column"] (defScope (ini 5)) := ⟨rfl, rfl, rfl, by decide +kernel, rfl, by decide +kernel, by decide +kernel⟩
theorem i_NoCover {f : Addr} {fd : FuncData} (F : Fun K "__init__" "NoCover.__init__" (ini 5) f fd) (R : Rt K mg "RowsError") : FnOk P w K mg base (L2.CX P w) 1 f fd ["self", "column"] (spI1 K "column") ∧ Binds K fd ["self", "column"] [] := by
  refine ⟨F.okX isc_NoCover (fun vs H Q E h => ?_) (fun cdv A outer s H vs Q E hr h => ⟨_, pss_cons (ps_expr (pe_rinit R rfl (pa_cons (pv 0) (pa_cons pe_str pa_nil)))) (pss_one (ps_ost (pv 0) (pv 1))), ?_⟩), F.binds fun _ _ _ _ _ _ us hl => match us, hl with | [_, _], _ => rfl⟩
  · obtain ⟨a, C, y, rfl, _⟩ := h
    rfl
  · obtain ⟨a, C, y, rfl, T, hno, ea, q⟩ := h
    exact ⟨_, rfl, a, C, _, rfl, by decide, T, ea, _, rfl, _, rfl, a, C, rfl, T, hno, .inl ⟨ea, q⟩⟩
theorem isc_TooMany : FnScope ["self", "most"] ["self", "most"] (defScope (ini 6)) := ⟨rfl, rfl, rfl, by decide +kernel, rfl, by decide +kernel, by decide +kernel⟩
theorem i_TooMany {f : Addr} {fd : FuncData} (F : Fun K "__init__" "TooMany.__init__" (ini 6) f fd) (R : Rt K mg "RowsError") : FnOk P w K mg base (L2.CX P w) 1 f fd ["self", "most"] (spI1 K "most") ∧ Binds K fd ["self", "most"] [] := by
  refine ⟨F.okX isc_TooMany (fun vs H Q E h => ?_) (fun cdv A outer s H vs Q E hr h => ⟨_, pss_cons (ps_expr (pe_rinit R rfl (pa_cons (pv 0) (pa_cons pe_str pa_nil)))) (pss_one (ps_ost (pv 0) (pv 1))), ?_⟩), F.binds fun _ _ _ _ _ _ us hl => match us, hl with | [_, _], _ => rfl⟩
  · obtain ⟨a, C, y, rfl, _⟩ := h
    rfl
  · obtain ⟨a, C, y, rfl, T, hno, ea, q⟩ := h
    exact ⟨_, rfl, a, C, _, rfl, by decide, T, ea, _, rfl, _, rfl, a, C, rfl, T, hno, .inl ⟨ea, q⟩⟩
theorem isc_NoRing : FnScope ["self"] ["self"] (defScope (ini 7)) := ⟨rfl, rfl, rfl, by decide +kernel, rfl, by decide +kernel, by decide +kernel⟩
theorem i_NoRing {f : Addr} {fd : FuncData} (F : Fun K "__init__" "NoRing.__init__" (ini 7) f fd) (R : Rt K mg "RowsError") : FnOk P w K mg base (L2.CX P w) 1 f fd ["self"] (spI0 K) ∧ Binds K fd ["self"] [] := by
  refine ⟨F.okX isc_NoRing (fun vs H Q E h => ?_) (fun cdv A outer s H vs Q E hr h => ⟨_, pss_one (ps_expr (pe_rinit R rfl (pa_cons (pv 0) (pa_cons pe_str pa_nil)))), ?_⟩), F.binds fun _ _ _ _ _ _ us hl => match us, hl with | [_], _ => rfl⟩
  · obtain ⟨a, C, rfl, _⟩ := h
    rfl
  · obtain ⟨a, C, rfl, T, ea, q⟩ := h
    exact ⟨_, rfl, a, C, _, rfl, by decide, T, ea, q⟩
theorem isc_NoEars : FnScope ["self"] ["self"] (defScope (ini 8)) := ⟨rfl, rfl, rfl, by decide +kernel, rfl, by decide +kernel, by decide +kernel⟩
theorem i_NoEars {f : Addr} {fd : FuncData} (F : Fun K "__init__" "NoEars.__init__" (ini 8) f fd) (R : Rt K mg "RowsError") : FnOk P w K mg base (L2.CX P w) 1 f fd ["self"] (spI0 K) ∧ Binds K fd ["self"] [] := by
  refine ⟨F.okX isc_NoEars (fun vs H Q E h => ?_) (fun cdv A outer s H vs Q E hr h => ⟨_, pss_one (ps_expr (pe_rinit R rfl (pa_cons (pv 0) (pa_cons pe_str pa_nil)))), ?_⟩), F.binds fun _ _ _ _ _ _ us hl => match us, hl with | [_], _ => rfl⟩
  · obtain ⟨a, C, rfl, _⟩ := h
    rfl
  · obtain ⟨a, C, rfl, T, ea, q⟩ := h
    exact ⟨_, rfl, a, C, _, rfl, by decide, T, ea, q⟩
theorem isc_NoAnswer : FnScope ["self"] ["self"] (defScope (ini 9)) := ⟨rfl, rfl, rfl, by decide +kernel, rfl, by decide +kernel, by decide +kernel⟩
theorem i_NoAnswer {f : Addr} {fd : FuncData} (F : Fun K "__init__" "NoAnswer.__init__" (ini 9) f fd) (R : Rt K mg "RowsError") : FnOk P w K mg base (L2.CX P w) 1 f fd ["self"] (spI0 K) ∧ Binds K fd ["self"] [] := by
  refine ⟨F.okX isc_NoAnswer (fun vs H Q E h => ?_) (fun cdv A outer s H vs Q E hr h => ⟨_, pss_one (ps_expr (pe_rinit R rfl (pa_cons (pv 0) (pa_cons pe_str pa_nil)))), ?_⟩), F.binds fun _ _ _ _ _ _ us hl => match us, hl with | [_], _ => rfl⟩
  · obtain ⟨a, C, rfl, _⟩ := h
    rfl
  · obtain ⟨a, C, rfl, T, ea, q⟩ := h
    exact ⟨_, rfl, a, C, _, rfl, by decide, T, ea, q⟩
theorem isc_NoText : FnScope ["self", "row"] ["self", "row"] (defScope (ini 10)) := ⟨rfl, rfl, rfl, by decide +kernel, rfl, by decide +kernel, by decide +kernel⟩
theorem i_NoText {f : Addr} {fd : FuncData} (F : Fun K "__init__" "NoText.__init__" (ini 10) f fd) (R : Rt K mg "RowsError") : FnOk P w K mg base (L2.CX P w) 1 f fd ["self", "row"] (spI1 K "row") ∧ Binds K fd ["self", "row"] [] := by
  refine ⟨F.okX isc_NoText (fun vs H Q E h => ?_) (fun cdv A outer s H vs Q E hr h => ⟨_, pss_cons (ps_expr (pe_rinit R rfl (pa_cons (pv 0) (pa_cons pe_str pa_nil)))) (pss_one (ps_ost (pv 0) (pv 1))), ?_⟩), F.binds fun _ _ _ _ _ _ us hl => match us, hl with | [_, _], _ => rfl⟩
  · obtain ⟨a, C, y, rfl, _⟩ := h
    rfl
  · obtain ⟨a, C, y, rfl, T, hno, ea, q⟩ := h
    exact ⟨_, rfl, a, C, _, rfl, by decide, T, ea, _, rfl, _, rfl, a, C, rfl, T, hno, .inl ⟨ea, q⟩⟩
theorem isc_NoRow : FnScope ["self"] ["self"] (defScope (ini 11)) := ⟨rfl, rfl, rfl, by decide +kernel, rfl, by decide +kernel, by decide +kernel⟩
theorem i_NoRow {f : Addr} {fd : FuncData} (F : Fun K "__init__" "NoRow.__init__" (ini 11) f fd) (R : Rt K mg "RowsError") : FnOk P w K mg base (L2.CX P w) 1 f fd ["self"] (spI0 K) ∧ Binds K fd ["self"] [] := by
  refine ⟨F.okX isc_NoRow (fun vs H Q E h => ?_) (fun cdv A outer s H vs Q E hr h => ⟨_, pss_one (ps_expr (pe_rinit R rfl (pa_cons (pv 0) (pa_cons pe_str pa_nil)))), ?_⟩), F.binds fun _ _ _ _ _ _ us hl => match us, hl with | [_], _ => rfl⟩
  · obtain ⟨a, C, rfl, _⟩ := h
    rfl
  · obtain ⟨a, C, rfl, T, ea, q⟩ := h
    exact ⟨_, rfl, a, C, _, rfl, by decide, T, ea, q⟩
end
end MR

namespace MR
open PySem PySem.Spec PyProof.Rows L2
section
theorem law_end {K : PySem.W.Frag} {cl : Str → Option Addr} {H : Hp} {a : Addr} {ns : List Int} (hl : ns.length ≤ 63) (hS : SqL K H a (ns.map V.int)) : spCt ⟨K, cl⟩ 1 ct_law [.ref a] H (fun v _ => v = .bl true) fun _ _ _ => False := by
  refine ⟨⟨[], H, H⟩, [.d (.lsf (ns.map D.int))], [], .ok (.d (.bl true)), [], rfl, ⟨Ex.refl _, Ex.refl _, rfl, fun k a o h _ => by simp at h, fun k a o h _ _ => by simp at h, fun j k a o o' h _ _ _ _ _ => by simp at h⟩, .cons (x := .d (.lsf (ns.map D.int))) (Rp.lsf hS RpA.of_ints) .nil, ?_, fun w' H' _ _ v hv => ?_⟩
  · simp [ct_law, intsOf_map]
    omega
  · have hv' : Rp K w'.I v (.bl true) := hv
    cases hv'
    rfl
def spL (w : World) (K : PySem.W.Frag) : Sp := fun vs H Q E => ∀ cl, spCt ⟨K, cl⟩ 1 ct_law vs H Q E
theorem all_mk {P : Program} {w : World} {K : PySem.W.Frag} {h : Heap} {mg : Str → Option Value} {fa C_RowsError C_BadTable fI_BadTable C_BadQuestion fI_BadQuestion C_BadHouse fI_BadHouse C_NoCover fI_NoCover C_TooMany fI_TooMany C_NoRing fI_NoRing C_NoEars fI_NoEars C_NoAnswer fI_NoAnswer C_NoText fI_NoText C_NoRow fI_NoRow f__law_take f__law_box f__law_name f__law_refuse f__law_sorts f__law_field f_law : Addr} (X : K.In h) (G : h.Ns mainGlobals mg) (hfa : mg "law" = some (.ref fa))
    {nm_RowsError q_RowsError : Str} {N_RowsError : Addr} {bs_RowsError sub_RowsError : List Value} {sn_RowsError : List Str} {ab_RowsError : Bool} {col_RowsError : Option Bool} {dd_RowsError : Option Addr} {v0_RowsError v1_RowsError v2_RowsError v3_RowsError v5_RowsError : Option Value}
    {nm_BadTable q_BadTable : Str} {N_BadTable : Addr} {bs_BadTable sub_BadTable : List Value} {sn_BadTable : List Str} {ab_BadTable : Bool} {col_BadTable : Option Bool} {dd_BadTable : Option Addr} {v0_BadTable v1_BadTable v2_BadTable v3_BadTable v5_BadTable : Option Value}
    {ocI_BadTable kVI_BadTable dcI_BadTable pmI_BadTable cdI_BadTable ctI_BadTable : Value} {odI_BadTable anI_BadTable : Option Addr} {slI_BadTable : Array (Option Value)}
    {nm_BadQuestion q_BadQuestion : Str} {N_BadQuestion : Addr} {bs_BadQuestion sub_BadQuestion : List Value} {sn_BadQuestion : List Str} {ab_BadQuestion : Bool} {col_BadQuestion : Option Bool} {dd_BadQuestion : Option Addr} {v0_BadQuestion v1_BadQuestion v2_BadQuestion v3_BadQuestion v5_BadQuestion : Option Value}
    {ocI_BadQuestion kVI_BadQuestion dcI_BadQuestion pmI_BadQuestion cdI_BadQuestion ctI_BadQuestion : Value} {odI_BadQuestion anI_BadQuestion : Option Addr} {slI_BadQuestion : Array (Option Value)}
    {nm_BadHouse q_BadHouse : Str} {N_BadHouse : Addr} {bs_BadHouse sub_BadHouse : List Value} {sn_BadHouse : List Str} {ab_BadHouse : Bool} {col_BadHouse : Option Bool} {dd_BadHouse : Option Addr} {v0_BadHouse v1_BadHouse v2_BadHouse v3_BadHouse v5_BadHouse : Option Value}
    {ocI_BadHouse kVI_BadHouse dcI_BadHouse pmI_BadHouse cdI_BadHouse ctI_BadHouse : Value} {odI_BadHouse anI_BadHouse : Option Addr} {slI_BadHouse : Array (Option Value)}
    {nm_NoCover q_NoCover : Str} {N_NoCover : Addr} {bs_NoCover sub_NoCover : List Value} {sn_NoCover : List Str} {ab_NoCover : Bool} {col_NoCover : Option Bool} {dd_NoCover : Option Addr} {v0_NoCover v1_NoCover v2_NoCover v3_NoCover v5_NoCover : Option Value}
    {ocI_NoCover kVI_NoCover dcI_NoCover pmI_NoCover cdI_NoCover ctI_NoCover : Value} {odI_NoCover anI_NoCover : Option Addr} {slI_NoCover : Array (Option Value)}
    {nm_TooMany q_TooMany : Str} {N_TooMany : Addr} {bs_TooMany sub_TooMany : List Value} {sn_TooMany : List Str} {ab_TooMany : Bool} {col_TooMany : Option Bool} {dd_TooMany : Option Addr} {v0_TooMany v1_TooMany v2_TooMany v3_TooMany v5_TooMany : Option Value}
    {ocI_TooMany kVI_TooMany dcI_TooMany pmI_TooMany cdI_TooMany ctI_TooMany : Value} {odI_TooMany anI_TooMany : Option Addr} {slI_TooMany : Array (Option Value)}
    {nm_NoRing q_NoRing : Str} {N_NoRing : Addr} {bs_NoRing sub_NoRing : List Value} {sn_NoRing : List Str} {ab_NoRing : Bool} {col_NoRing : Option Bool} {dd_NoRing : Option Addr} {v0_NoRing v1_NoRing v2_NoRing v3_NoRing v5_NoRing : Option Value}
    {ocI_NoRing kVI_NoRing dcI_NoRing pmI_NoRing cdI_NoRing ctI_NoRing : Value} {odI_NoRing anI_NoRing : Option Addr} {slI_NoRing : Array (Option Value)}
    {nm_NoEars q_NoEars : Str} {N_NoEars : Addr} {bs_NoEars sub_NoEars : List Value} {sn_NoEars : List Str} {ab_NoEars : Bool} {col_NoEars : Option Bool} {dd_NoEars : Option Addr} {v0_NoEars v1_NoEars v2_NoEars v3_NoEars v5_NoEars : Option Value}
    {ocI_NoEars kVI_NoEars dcI_NoEars pmI_NoEars cdI_NoEars ctI_NoEars : Value} {odI_NoEars anI_NoEars : Option Addr} {slI_NoEars : Array (Option Value)}
    {nm_NoAnswer q_NoAnswer : Str} {N_NoAnswer : Addr} {bs_NoAnswer sub_NoAnswer : List Value} {sn_NoAnswer : List Str} {ab_NoAnswer : Bool} {col_NoAnswer : Option Bool} {dd_NoAnswer : Option Addr} {v0_NoAnswer v1_NoAnswer v2_NoAnswer v3_NoAnswer v5_NoAnswer : Option Value}
    {ocI_NoAnswer kVI_NoAnswer dcI_NoAnswer pmI_NoAnswer cdI_NoAnswer ctI_NoAnswer : Value} {odI_NoAnswer anI_NoAnswer : Option Addr} {slI_NoAnswer : Array (Option Value)}
    {nm_NoText q_NoText : Str} {N_NoText : Addr} {bs_NoText sub_NoText : List Value} {sn_NoText : List Str} {ab_NoText : Bool} {col_NoText : Option Bool} {dd_NoText : Option Addr} {v0_NoText v1_NoText v2_NoText v3_NoText v5_NoText : Option Value}
    {ocI_NoText kVI_NoText dcI_NoText pmI_NoText cdI_NoText ctI_NoText : Value} {odI_NoText anI_NoText : Option Addr} {slI_NoText : Array (Option Value)}
    {nm_NoRow q_NoRow : Str} {N_NoRow : Addr} {bs_NoRow sub_NoRow : List Value} {sn_NoRow : List Str} {ab_NoRow : Bool} {col_NoRow : Option Bool} {dd_NoRow : Option Addr} {v0_NoRow v1_NoRow v2_NoRow v3_NoRow v5_NoRow : Option Value}
    {ocI_NoRow kVI_NoRow dcI_NoRow pmI_NoRow cdI_NoRow ctI_NoRow : Value} {odI_NoRow anI_NoRow : Option Addr} {slI_NoRow : Array (Option Value)}
    {oc__law_take kV__law_take dc__law_take pm__law_take cd__law_take ct___law_take : Value} {od__law_take an__law_take : Option Addr} {sl__law_take : Array (Option Value)}
    {oc__law_box kV__law_box dc__law_box pm__law_box cd__law_box ct___law_box : Value} {od__law_box an__law_box : Option Addr} {sl__law_box : Array (Option Value)}
    {oc__law_name kV__law_name dc__law_name pm__law_name cd__law_name ct___law_name : Value} {od__law_name an__law_name : Option Addr} {sl__law_name : Array (Option Value)}
    {oc__law_refuse kV__law_refuse dc__law_refuse pm__law_refuse cd__law_refuse ct___law_refuse : Value} {od__law_refuse an__law_refuse : Option Addr} {sl__law_refuse : Array (Option Value)}
    {oc__law_sorts kV__law_sorts dc__law_sorts pm__law_sorts cd__law_sorts ct___law_sorts : Value} {od__law_sorts an__law_sorts : Option Addr} {sl__law_sorts : Array (Option Value)}
    {oc__law_field kV__law_field dc__law_field pm__law_field cd__law_field ct___law_field : Value} {od__law_field an__law_field : Option Addr} {sl__law_field : Array (Option Value)}
    {oc_law kV_law dc_law pm_law cd_law ct__law : Value} {od_law an_law : Option Addr} {sl_law : Array (Option Value)}
    (aC_RowsError : PySem.W.nsIn K mainGlobals "RowsError" = some (some (.ref C_RowsError)))
    (xL_RowsError : K.lookup C_RowsError = some (excClassObj nm_RowsError q_RowsError C_RowsError N_RowsError bs_RowsError [.type "ValueError", .type "Exception", .type "BaseException", .type "object"] true sn_RowsError sub_RowsError ab_RowsError col_RowsError dd_RowsError v0_RowsError v1_RowsError v2_RowsError v3_RowsError v5_RowsError "ValueError.__new__"))
    (ga_RowsError : PySem.W.findIn K (.ref C_RowsError) "__getattribute__" = some (some (.builtin "BaseException.__getattribute__")))
    (gg_RowsError : PySem.W.findIn K (.ref C_RowsError) "__getattr__" = some none)
    (ha_RowsError : PySem.W.findIn K (.ref C_RowsError) "__class__" = some (some (.builtin "object.__class__")))
    (kC_RowsError : PySem.W.keepIn K (.ref C_RowsError) = true)
    (aC_BadTable : PySem.W.nsIn K mainGlobals "BadTable" = some (some (.ref C_BadTable)))
    (xL_BadTable : K.lookup C_BadTable = some (excClassObj nm_BadTable q_BadTable C_BadTable N_BadTable bs_BadTable [.ref C_RowsError, .type "ValueError", .type "Exception", .type "BaseException", .type "object"] true sn_BadTable sub_BadTable ab_BadTable col_BadTable dd_BadTable v0_BadTable v1_BadTable v2_BadTable v3_BadTable v5_BadTable "ValueError.__new__"))
    (ga_BadTable : PySem.W.findIn K (.ref C_BadTable) "__getattribute__" = some (some (.builtin "BaseException.__getattribute__")))
    (gg_BadTable : PySem.W.findIn K (.ref C_BadTable) "__getattr__" = some none)
    (ha_BadTable : PySem.W.findIn K (.ref C_BadTable) "__class__" = some (some (.builtin "object.__class__")))
    (kC_BadTable : PySem.W.keepIn K (.ref C_BadTable) = true)
    (no_BadTable : PySem.W.findIn K (.ref C_BadTable) "at" = some none)
    (sa_BadTable : PySem.W.findIn K (.ref C_BadTable) "__setattr__" = some (some (.builtin "object.__setattr__")))
    (in_BadTable : PySem.W.findIn K (.ref C_BadTable) "__init__" = some (some (.ref fI_BadTable)))
    (t_BadTable : PySem.W.typeIn K (.ref fI_BadTable) = some (.type "function"))
    (lI_BadTable : K.lookup fI_BadTable = some ⟨ocI_BadTable, odI_BadTable, .func (PySem.W.fnOf "__init__" "BadTable.__init__" (defArgs (ini 2)) (defBody (ini 2)) (defScope (ini 2)) .none kVI_BadTable dcI_BadTable pmI_BadTable anI_BadTable cdI_BadTable ctI_BadTable), slI_BadTable⟩)
    (cI_BadTable : PySem.W.codeIn K cdI_BadTable "BadTable.__init__" = true)
    (kI_BadTable : PySem.W.keepIn K (.ref fI_BadTable) = true)
    (aC_BadQuestion : PySem.W.nsIn K mainGlobals "BadQuestion" = some (some (.ref C_BadQuestion)))
    (xL_BadQuestion : K.lookup C_BadQuestion = some (excClassObj nm_BadQuestion q_BadQuestion C_BadQuestion N_BadQuestion bs_BadQuestion [.ref C_RowsError, .type "ValueError", .type "Exception", .type "BaseException", .type "object"] true sn_BadQuestion sub_BadQuestion ab_BadQuestion col_BadQuestion dd_BadQuestion v0_BadQuestion v1_BadQuestion v2_BadQuestion v3_BadQuestion v5_BadQuestion "ValueError.__new__"))
    (ga_BadQuestion : PySem.W.findIn K (.ref C_BadQuestion) "__getattribute__" = some (some (.builtin "BaseException.__getattribute__")))
    (gg_BadQuestion : PySem.W.findIn K (.ref C_BadQuestion) "__getattr__" = some none)
    (ha_BadQuestion : PySem.W.findIn K (.ref C_BadQuestion) "__class__" = some (some (.builtin "object.__class__")))
    (kC_BadQuestion : PySem.W.keepIn K (.ref C_BadQuestion) = true)
    (no_BadQuestion : PySem.W.findIn K (.ref C_BadQuestion) "at" = some none)
    (sa_BadQuestion : PySem.W.findIn K (.ref C_BadQuestion) "__setattr__" = some (some (.builtin "object.__setattr__")))
    (in_BadQuestion : PySem.W.findIn K (.ref C_BadQuestion) "__init__" = some (some (.ref fI_BadQuestion)))
    (t_BadQuestion : PySem.W.typeIn K (.ref fI_BadQuestion) = some (.type "function"))
    (lI_BadQuestion : K.lookup fI_BadQuestion = some ⟨ocI_BadQuestion, odI_BadQuestion, .func (PySem.W.fnOf "__init__" "BadQuestion.__init__" (defArgs (ini 3)) (defBody (ini 3)) (defScope (ini 3)) .none kVI_BadQuestion dcI_BadQuestion pmI_BadQuestion anI_BadQuestion cdI_BadQuestion ctI_BadQuestion), slI_BadQuestion⟩)
    (cI_BadQuestion : PySem.W.codeIn K cdI_BadQuestion "BadQuestion.__init__" = true)
    (kI_BadQuestion : PySem.W.keepIn K (.ref fI_BadQuestion) = true)
    (aC_BadHouse : PySem.W.nsIn K mainGlobals "BadHouse" = some (some (.ref C_BadHouse)))
    (xL_BadHouse : K.lookup C_BadHouse = some (excClassObj nm_BadHouse q_BadHouse C_BadHouse N_BadHouse bs_BadHouse [.ref C_RowsError, .type "ValueError", .type "Exception", .type "BaseException", .type "object"] true sn_BadHouse sub_BadHouse ab_BadHouse col_BadHouse dd_BadHouse v0_BadHouse v1_BadHouse v2_BadHouse v3_BadHouse v5_BadHouse "ValueError.__new__"))
    (ga_BadHouse : PySem.W.findIn K (.ref C_BadHouse) "__getattribute__" = some (some (.builtin "BaseException.__getattribute__")))
    (gg_BadHouse : PySem.W.findIn K (.ref C_BadHouse) "__getattr__" = some none)
    (ha_BadHouse : PySem.W.findIn K (.ref C_BadHouse) "__class__" = some (some (.builtin "object.__class__")))
    (kC_BadHouse : PySem.W.keepIn K (.ref C_BadHouse) = true)
    (no_BadHouse : PySem.W.findIn K (.ref C_BadHouse) "table" = some none)
    (sa_BadHouse : PySem.W.findIn K (.ref C_BadHouse) "__setattr__" = some (some (.builtin "object.__setattr__")))
    (in_BadHouse : PySem.W.findIn K (.ref C_BadHouse) "__init__" = some (some (.ref fI_BadHouse)))
    (t_BadHouse : PySem.W.typeIn K (.ref fI_BadHouse) = some (.type "function"))
    (lI_BadHouse : K.lookup fI_BadHouse = some ⟨ocI_BadHouse, odI_BadHouse, .func (PySem.W.fnOf "__init__" "BadHouse.__init__" (defArgs (ini 4)) (defBody (ini 4)) (defScope (ini 4)) .none kVI_BadHouse dcI_BadHouse pmI_BadHouse anI_BadHouse cdI_BadHouse ctI_BadHouse), slI_BadHouse⟩)
    (cI_BadHouse : PySem.W.codeIn K cdI_BadHouse "BadHouse.__init__" = true)
    (kI_BadHouse : PySem.W.keepIn K (.ref fI_BadHouse) = true)
    (aC_NoCover : PySem.W.nsIn K mainGlobals "NoCover" = some (some (.ref C_NoCover)))
    (xL_NoCover : K.lookup C_NoCover = some (excClassObj nm_NoCover q_NoCover C_NoCover N_NoCover bs_NoCover [.ref C_RowsError, .type "ValueError", .type "Exception", .type "BaseException", .type "object"] true sn_NoCover sub_NoCover ab_NoCover col_NoCover dd_NoCover v0_NoCover v1_NoCover v2_NoCover v3_NoCover v5_NoCover "ValueError.__new__"))
    (ga_NoCover : PySem.W.findIn K (.ref C_NoCover) "__getattribute__" = some (some (.builtin "BaseException.__getattribute__")))
    (gg_NoCover : PySem.W.findIn K (.ref C_NoCover) "__getattr__" = some none)
    (ha_NoCover : PySem.W.findIn K (.ref C_NoCover) "__class__" = some (some (.builtin "object.__class__")))
    (kC_NoCover : PySem.W.keepIn K (.ref C_NoCover) = true)
    (no_NoCover : PySem.W.findIn K (.ref C_NoCover) "column" = some none)
    (sa_NoCover : PySem.W.findIn K (.ref C_NoCover) "__setattr__" = some (some (.builtin "object.__setattr__")))
    (in_NoCover : PySem.W.findIn K (.ref C_NoCover) "__init__" = some (some (.ref fI_NoCover)))
    (t_NoCover : PySem.W.typeIn K (.ref fI_NoCover) = some (.type "function"))
    (lI_NoCover : K.lookup fI_NoCover = some ⟨ocI_NoCover, odI_NoCover, .func (PySem.W.fnOf "__init__" "NoCover.__init__" (defArgs (ini 5)) (defBody (ini 5)) (defScope (ini 5)) .none kVI_NoCover dcI_NoCover pmI_NoCover anI_NoCover cdI_NoCover ctI_NoCover), slI_NoCover⟩)
    (cI_NoCover : PySem.W.codeIn K cdI_NoCover "NoCover.__init__" = true)
    (kI_NoCover : PySem.W.keepIn K (.ref fI_NoCover) = true)
    (aC_TooMany : PySem.W.nsIn K mainGlobals "TooMany" = some (some (.ref C_TooMany)))
    (xL_TooMany : K.lookup C_TooMany = some (excClassObj nm_TooMany q_TooMany C_TooMany N_TooMany bs_TooMany [.ref C_RowsError, .type "ValueError", .type "Exception", .type "BaseException", .type "object"] true sn_TooMany sub_TooMany ab_TooMany col_TooMany dd_TooMany v0_TooMany v1_TooMany v2_TooMany v3_TooMany v5_TooMany "ValueError.__new__"))
    (ga_TooMany : PySem.W.findIn K (.ref C_TooMany) "__getattribute__" = some (some (.builtin "BaseException.__getattribute__")))
    (gg_TooMany : PySem.W.findIn K (.ref C_TooMany) "__getattr__" = some none)
    (ha_TooMany : PySem.W.findIn K (.ref C_TooMany) "__class__" = some (some (.builtin "object.__class__")))
    (kC_TooMany : PySem.W.keepIn K (.ref C_TooMany) = true)
    (no_TooMany : PySem.W.findIn K (.ref C_TooMany) "most" = some none)
    (sa_TooMany : PySem.W.findIn K (.ref C_TooMany) "__setattr__" = some (some (.builtin "object.__setattr__")))
    (in_TooMany : PySem.W.findIn K (.ref C_TooMany) "__init__" = some (some (.ref fI_TooMany)))
    (t_TooMany : PySem.W.typeIn K (.ref fI_TooMany) = some (.type "function"))
    (lI_TooMany : K.lookup fI_TooMany = some ⟨ocI_TooMany, odI_TooMany, .func (PySem.W.fnOf "__init__" "TooMany.__init__" (defArgs (ini 6)) (defBody (ini 6)) (defScope (ini 6)) .none kVI_TooMany dcI_TooMany pmI_TooMany anI_TooMany cdI_TooMany ctI_TooMany), slI_TooMany⟩)
    (cI_TooMany : PySem.W.codeIn K cdI_TooMany "TooMany.__init__" = true)
    (kI_TooMany : PySem.W.keepIn K (.ref fI_TooMany) = true)
    (aC_NoRing : PySem.W.nsIn K mainGlobals "NoRing" = some (some (.ref C_NoRing)))
    (xL_NoRing : K.lookup C_NoRing = some (excClassObj nm_NoRing q_NoRing C_NoRing N_NoRing bs_NoRing [.ref C_RowsError, .type "ValueError", .type "Exception", .type "BaseException", .type "object"] true sn_NoRing sub_NoRing ab_NoRing col_NoRing dd_NoRing v0_NoRing v1_NoRing v2_NoRing v3_NoRing v5_NoRing "ValueError.__new__"))
    (ga_NoRing : PySem.W.findIn K (.ref C_NoRing) "__getattribute__" = some (some (.builtin "BaseException.__getattribute__")))
    (gg_NoRing : PySem.W.findIn K (.ref C_NoRing) "__getattr__" = some none)
    (ha_NoRing : PySem.W.findIn K (.ref C_NoRing) "__class__" = some (some (.builtin "object.__class__")))
    (kC_NoRing : PySem.W.keepIn K (.ref C_NoRing) = true)
    (sa_NoRing : PySem.W.findIn K (.ref C_NoRing) "__setattr__" = some (some (.builtin "object.__setattr__")))
    (in_NoRing : PySem.W.findIn K (.ref C_NoRing) "__init__" = some (some (.ref fI_NoRing)))
    (t_NoRing : PySem.W.typeIn K (.ref fI_NoRing) = some (.type "function"))
    (lI_NoRing : K.lookup fI_NoRing = some ⟨ocI_NoRing, odI_NoRing, .func (PySem.W.fnOf "__init__" "NoRing.__init__" (defArgs (ini 7)) (defBody (ini 7)) (defScope (ini 7)) .none kVI_NoRing dcI_NoRing pmI_NoRing anI_NoRing cdI_NoRing ctI_NoRing), slI_NoRing⟩)
    (cI_NoRing : PySem.W.codeIn K cdI_NoRing "NoRing.__init__" = true)
    (kI_NoRing : PySem.W.keepIn K (.ref fI_NoRing) = true)
    (aC_NoEars : PySem.W.nsIn K mainGlobals "NoEars" = some (some (.ref C_NoEars)))
    (xL_NoEars : K.lookup C_NoEars = some (excClassObj nm_NoEars q_NoEars C_NoEars N_NoEars bs_NoEars [.ref C_RowsError, .type "ValueError", .type "Exception", .type "BaseException", .type "object"] true sn_NoEars sub_NoEars ab_NoEars col_NoEars dd_NoEars v0_NoEars v1_NoEars v2_NoEars v3_NoEars v5_NoEars "ValueError.__new__"))
    (ga_NoEars : PySem.W.findIn K (.ref C_NoEars) "__getattribute__" = some (some (.builtin "BaseException.__getattribute__")))
    (gg_NoEars : PySem.W.findIn K (.ref C_NoEars) "__getattr__" = some none)
    (ha_NoEars : PySem.W.findIn K (.ref C_NoEars) "__class__" = some (some (.builtin "object.__class__")))
    (kC_NoEars : PySem.W.keepIn K (.ref C_NoEars) = true)
    (sa_NoEars : PySem.W.findIn K (.ref C_NoEars) "__setattr__" = some (some (.builtin "object.__setattr__")))
    (in_NoEars : PySem.W.findIn K (.ref C_NoEars) "__init__" = some (some (.ref fI_NoEars)))
    (t_NoEars : PySem.W.typeIn K (.ref fI_NoEars) = some (.type "function"))
    (lI_NoEars : K.lookup fI_NoEars = some ⟨ocI_NoEars, odI_NoEars, .func (PySem.W.fnOf "__init__" "NoEars.__init__" (defArgs (ini 8)) (defBody (ini 8)) (defScope (ini 8)) .none kVI_NoEars dcI_NoEars pmI_NoEars anI_NoEars cdI_NoEars ctI_NoEars), slI_NoEars⟩)
    (cI_NoEars : PySem.W.codeIn K cdI_NoEars "NoEars.__init__" = true)
    (kI_NoEars : PySem.W.keepIn K (.ref fI_NoEars) = true)
    (aC_NoAnswer : PySem.W.nsIn K mainGlobals "NoAnswer" = some (some (.ref C_NoAnswer)))
    (xL_NoAnswer : K.lookup C_NoAnswer = some (excClassObj nm_NoAnswer q_NoAnswer C_NoAnswer N_NoAnswer bs_NoAnswer [.ref C_RowsError, .type "ValueError", .type "Exception", .type "BaseException", .type "object"] true sn_NoAnswer sub_NoAnswer ab_NoAnswer col_NoAnswer dd_NoAnswer v0_NoAnswer v1_NoAnswer v2_NoAnswer v3_NoAnswer v5_NoAnswer "ValueError.__new__"))
    (ga_NoAnswer : PySem.W.findIn K (.ref C_NoAnswer) "__getattribute__" = some (some (.builtin "BaseException.__getattribute__")))
    (gg_NoAnswer : PySem.W.findIn K (.ref C_NoAnswer) "__getattr__" = some none)
    (ha_NoAnswer : PySem.W.findIn K (.ref C_NoAnswer) "__class__" = some (some (.builtin "object.__class__")))
    (kC_NoAnswer : PySem.W.keepIn K (.ref C_NoAnswer) = true)
    (sa_NoAnswer : PySem.W.findIn K (.ref C_NoAnswer) "__setattr__" = some (some (.builtin "object.__setattr__")))
    (in_NoAnswer : PySem.W.findIn K (.ref C_NoAnswer) "__init__" = some (some (.ref fI_NoAnswer)))
    (t_NoAnswer : PySem.W.typeIn K (.ref fI_NoAnswer) = some (.type "function"))
    (lI_NoAnswer : K.lookup fI_NoAnswer = some ⟨ocI_NoAnswer, odI_NoAnswer, .func (PySem.W.fnOf "__init__" "NoAnswer.__init__" (defArgs (ini 9)) (defBody (ini 9)) (defScope (ini 9)) .none kVI_NoAnswer dcI_NoAnswer pmI_NoAnswer anI_NoAnswer cdI_NoAnswer ctI_NoAnswer), slI_NoAnswer⟩)
    (cI_NoAnswer : PySem.W.codeIn K cdI_NoAnswer "NoAnswer.__init__" = true)
    (kI_NoAnswer : PySem.W.keepIn K (.ref fI_NoAnswer) = true)
    (aC_NoText : PySem.W.nsIn K mainGlobals "NoText" = some (some (.ref C_NoText)))
    (xL_NoText : K.lookup C_NoText = some (excClassObj nm_NoText q_NoText C_NoText N_NoText bs_NoText [.ref C_RowsError, .type "ValueError", .type "Exception", .type "BaseException", .type "object"] true sn_NoText sub_NoText ab_NoText col_NoText dd_NoText v0_NoText v1_NoText v2_NoText v3_NoText v5_NoText "ValueError.__new__"))
    (ga_NoText : PySem.W.findIn K (.ref C_NoText) "__getattribute__" = some (some (.builtin "BaseException.__getattribute__")))
    (gg_NoText : PySem.W.findIn K (.ref C_NoText) "__getattr__" = some none)
    (ha_NoText : PySem.W.findIn K (.ref C_NoText) "__class__" = some (some (.builtin "object.__class__")))
    (kC_NoText : PySem.W.keepIn K (.ref C_NoText) = true)
    (no_NoText : PySem.W.findIn K (.ref C_NoText) "row" = some none)
    (sa_NoText : PySem.W.findIn K (.ref C_NoText) "__setattr__" = some (some (.builtin "object.__setattr__")))
    (in_NoText : PySem.W.findIn K (.ref C_NoText) "__init__" = some (some (.ref fI_NoText)))
    (t_NoText : PySem.W.typeIn K (.ref fI_NoText) = some (.type "function"))
    (lI_NoText : K.lookup fI_NoText = some ⟨ocI_NoText, odI_NoText, .func (PySem.W.fnOf "__init__" "NoText.__init__" (defArgs (ini 10)) (defBody (ini 10)) (defScope (ini 10)) .none kVI_NoText dcI_NoText pmI_NoText anI_NoText cdI_NoText ctI_NoText), slI_NoText⟩)
    (cI_NoText : PySem.W.codeIn K cdI_NoText "NoText.__init__" = true)
    (kI_NoText : PySem.W.keepIn K (.ref fI_NoText) = true)
    (aC_NoRow : PySem.W.nsIn K mainGlobals "NoRow" = some (some (.ref C_NoRow)))
    (xL_NoRow : K.lookup C_NoRow = some (excClassObj nm_NoRow q_NoRow C_NoRow N_NoRow bs_NoRow [.ref C_RowsError, .type "ValueError", .type "Exception", .type "BaseException", .type "object"] true sn_NoRow sub_NoRow ab_NoRow col_NoRow dd_NoRow v0_NoRow v1_NoRow v2_NoRow v3_NoRow v5_NoRow "ValueError.__new__"))
    (ga_NoRow : PySem.W.findIn K (.ref C_NoRow) "__getattribute__" = some (some (.builtin "BaseException.__getattribute__")))
    (gg_NoRow : PySem.W.findIn K (.ref C_NoRow) "__getattr__" = some none)
    (ha_NoRow : PySem.W.findIn K (.ref C_NoRow) "__class__" = some (some (.builtin "object.__class__")))
    (kC_NoRow : PySem.W.keepIn K (.ref C_NoRow) = true)
    (sa_NoRow : PySem.W.findIn K (.ref C_NoRow) "__setattr__" = some (some (.builtin "object.__setattr__")))
    (in_NoRow : PySem.W.findIn K (.ref C_NoRow) "__init__" = some (some (.ref fI_NoRow)))
    (t_NoRow : PySem.W.typeIn K (.ref fI_NoRow) = some (.type "function"))
    (lI_NoRow : K.lookup fI_NoRow = some ⟨ocI_NoRow, odI_NoRow, .func (PySem.W.fnOf "__init__" "NoRow.__init__" (defArgs (ini 11)) (defBody (ini 11)) (defScope (ini 11)) .none kVI_NoRow dcI_NoRow pmI_NoRow anI_NoRow cdI_NoRow ctI_NoRow), slI_NoRow⟩)
    (cI_NoRow : PySem.W.codeIn K cdI_NoRow "NoRow.__init__" = true)
    (kI_NoRow : PySem.W.keepIn K (.ref fI_NoRow) = true)
    (r1 : PySem.W.specialIn K (.ref C_RowsError) "__getattribute__" = some (some (.builtin "type.__getattribute__")))
    (r2 : PySem.W.readsIn K C_RowsError (.type "type") = true)
    (r3 : PySem.W.findCls K (.ref C_RowsError) (.type "type") "__init__" = some (.val (.builtin "ValueError.__init__")))
    (hn : PySem.W.specialIn K (.builtin "object.__class__") "__get__" = some (some (.builtin "getset_descriptor.__get__")))
    (ht : PySem.W.takesIn K (.builtin "object.__class__") = some true)
    (ex : PySem.W.excIn K C_RowsError veT "ValueError.__new__" = true)
    (a__law_take : PySem.W.nsIn K mainGlobals "_law_take" = some (some (.ref f__law_take)))
    (l__law_take : K.lookup f__law_take = some ⟨oc__law_take, od__law_take, .func (PySem.W.fnOf "_law_take" "_law_take" (defArgs s__law_take) (defBody s__law_take) (defScope s__law_take) .none kV__law_take dc__law_take pm__law_take an__law_take cd__law_take ct___law_take), sl__law_take⟩)
    (c__law_take : PySem.W.codeIn K cd__law_take "_law_take" = true)
    (kp__law_take : PySem.W.keepIn K (.ref f__law_take) = true)
    (a__law_box : PySem.W.nsIn K mainGlobals "_law_box" = some (some (.ref f__law_box)))
    (l__law_box : K.lookup f__law_box = some ⟨oc__law_box, od__law_box, .func (PySem.W.fnOf "_law_box" "_law_box" (defArgs s__law_box) (defBody s__law_box) (defScope s__law_box) .none kV__law_box dc__law_box pm__law_box an__law_box cd__law_box ct___law_box), sl__law_box⟩)
    (c__law_box : PySem.W.codeIn K cd__law_box "_law_box" = true)
    (kp__law_box : PySem.W.keepIn K (.ref f__law_box) = true)
    (a__law_name : PySem.W.nsIn K mainGlobals "_law_name" = some (some (.ref f__law_name)))
    (l__law_name : K.lookup f__law_name = some ⟨oc__law_name, od__law_name, .func (PySem.W.fnOf "_law_name" "_law_name" (defArgs s__law_name) (defBody s__law_name) (defScope s__law_name) .none kV__law_name dc__law_name pm__law_name an__law_name cd__law_name ct___law_name), sl__law_name⟩)
    (c__law_name : PySem.W.codeIn K cd__law_name "_law_name" = true)
    (kp__law_name : PySem.W.keepIn K (.ref f__law_name) = true)
    (a__law_refuse : PySem.W.nsIn K mainGlobals "_law_refuse" = some (some (.ref f__law_refuse)))
    (l__law_refuse : K.lookup f__law_refuse = some ⟨oc__law_refuse, od__law_refuse, .func (PySem.W.fnOf "_law_refuse" "_law_refuse" (defArgs s__law_refuse) (defBody s__law_refuse) (defScope s__law_refuse) .none kV__law_refuse dc__law_refuse pm__law_refuse an__law_refuse cd__law_refuse ct___law_refuse), sl__law_refuse⟩)
    (c__law_refuse : PySem.W.codeIn K cd__law_refuse "_law_refuse" = true)
    (kp__law_refuse : PySem.W.keepIn K (.ref f__law_refuse) = true)
    (a__law_sorts : PySem.W.nsIn K mainGlobals "_law_sorts" = some (some (.ref f__law_sorts)))
    (l__law_sorts : K.lookup f__law_sorts = some ⟨oc__law_sorts, od__law_sorts, .func (PySem.W.fnOf "_law_sorts" "_law_sorts" (defArgs s__law_sorts) (defBody s__law_sorts) (defScope s__law_sorts) .none kV__law_sorts dc__law_sorts pm__law_sorts an__law_sorts cd__law_sorts ct___law_sorts), sl__law_sorts⟩)
    (c__law_sorts : PySem.W.codeIn K cd__law_sorts "_law_sorts" = true)
    (kp__law_sorts : PySem.W.keepIn K (.ref f__law_sorts) = true)
    (a__law_field : PySem.W.nsIn K mainGlobals "_law_field" = some (some (.ref f__law_field)))
    (l__law_field : K.lookup f__law_field = some ⟨oc__law_field, od__law_field, .func (PySem.W.fnOf "_law_field" "_law_field" (defArgs s__law_field) (defBody s__law_field) (defScope s__law_field) .none kV__law_field dc__law_field pm__law_field an__law_field cd__law_field ct___law_field), sl__law_field⟩)
    (c__law_field : PySem.W.codeIn K cd__law_field "_law_field" = true)
    (kp__law_field : PySem.W.keepIn K (.ref f__law_field) = true)
    (a_law : PySem.W.nsIn K mainGlobals "law" = some (some (.ref f_law)))
    (l_law : K.lookup f_law = some ⟨oc_law, od_law, .func (PySem.W.fnOf "law" "law" (defArgs s_law) (defBody s_law) (defScope s_law) .none kV_law dc_law pm_law an_law cd_law ct__law), sl_law⟩)
    (c_law : PySem.W.codeIn K cd_law "law" = true)
    (kp_law : PySem.W.keepIn K (.ref f_law) = true)
    (z_ValueError : PySem.W.nsIn K mainGlobals "ValueError" = some none)
    (z_int : PySem.W.nsIn K mainGlobals "int" = some none)
    (z_isinstance : PySem.W.nsIn K mainGlobals "isinstance" = some none)
    (z_len : PySem.W.nsIn K mainGlobals "len" = some none)
    (z_list : PySem.W.nsIn K mainGlobals "list" = some none)
    (z_range : PySem.W.nsIn K mainGlobals "range" = some none)
    (nd : ([C_RowsError, C_BadTable, C_BadQuestion, C_BadHouse, C_NoCover, C_TooMany, C_NoRing, C_NoEars, C_NoAnswer, C_NoText, C_NoRow] : List Addr).Nodup) :
    ∃ fd : FuncData, (∀ (s : Shared) (v : Value), BindsTo s fd ⟨[v], []⟩ [("_law_script", v)]) ∧ ∀ base : Heap, K.In base → base.Ns mainGlobals mg → FnOk P w K mg base (L2.CX P w) k_law fa fd ["_law_script"] (spL w K) := by
  have e := hfa.symm.trans (PySem.W.mg_of X G a_law)
  cases e
  have R : Rt K mg "RowsError" := ⟨C_RowsError, PySem.W.mg_of X G aC_RowsError, r1, r2, r3⟩
  have cf_RowsError : Cf K mg C_RowsError fldT "RowsError" C_RowsError := ⟨PySem.W.mg_of X G aC_RowsError, ⟨_, _, _, _, _, _, _, _, _, _, _, _, _, _, by
      rw [show bmOf C_RowsError "RowsError" = veT from if_pos (by decide)]
      exact xL_RowsError⟩, ga_RowsError, gg_RowsError, ha_RowsError, fun n hn => by
      have e : fldT "RowsError" = none := by decide
      rw [e] at hn
      cases hn⟩
  have cf_BadTable : Cf K mg C_RowsError fldT "BadTable" C_BadTable := ⟨PySem.W.mg_of X G aC_BadTable, ⟨_, _, _, _, _, _, _, _, _, _, _, _, _, _, by
      rw [show bmOf C_RowsError "BadTable" = .ref C_RowsError :: veT from if_neg (by decide)]
      exact xL_BadTable⟩, ga_BadTable, gg_BadTable, ha_BadTable, fun n hn => by
      have e : fldT "BadTable" = some "at" := by decide
      rw [e] at hn
      cases hn
      exact no_BadTable⟩
  have cf_BadQuestion : Cf K mg C_RowsError fldT "BadQuestion" C_BadQuestion := ⟨PySem.W.mg_of X G aC_BadQuestion, ⟨_, _, _, _, _, _, _, _, _, _, _, _, _, _, by
      rw [show bmOf C_RowsError "BadQuestion" = .ref C_RowsError :: veT from if_neg (by decide)]
      exact xL_BadQuestion⟩, ga_BadQuestion, gg_BadQuestion, ha_BadQuestion, fun n hn => by
      have e : fldT "BadQuestion" = some "at" := by decide
      rw [e] at hn
      cases hn
      exact no_BadQuestion⟩
  have cf_BadHouse : Cf K mg C_RowsError fldT "BadHouse" C_BadHouse := ⟨PySem.W.mg_of X G aC_BadHouse, ⟨_, _, _, _, _, _, _, _, _, _, _, _, _, _, by
      rw [show bmOf C_RowsError "BadHouse" = .ref C_RowsError :: veT from if_neg (by decide)]
      exact xL_BadHouse⟩, ga_BadHouse, gg_BadHouse, ha_BadHouse, fun n hn => by
      have e : fldT "BadHouse" = some "table" := by decide
      rw [e] at hn
      cases hn
      exact no_BadHouse⟩
  have cf_NoCover : Cf K mg C_RowsError fldT "NoCover" C_NoCover := ⟨PySem.W.mg_of X G aC_NoCover, ⟨_, _, _, _, _, _, _, _, _, _, _, _, _, _, by
      rw [show bmOf C_RowsError "NoCover" = .ref C_RowsError :: veT from if_neg (by decide)]
      exact xL_NoCover⟩, ga_NoCover, gg_NoCover, ha_NoCover, fun n hn => by
      have e : fldT "NoCover" = some "column" := by decide
      rw [e] at hn
      cases hn
      exact no_NoCover⟩
  have cf_TooMany : Cf K mg C_RowsError fldT "TooMany" C_TooMany := ⟨PySem.W.mg_of X G aC_TooMany, ⟨_, _, _, _, _, _, _, _, _, _, _, _, _, _, by
      rw [show bmOf C_RowsError "TooMany" = .ref C_RowsError :: veT from if_neg (by decide)]
      exact xL_TooMany⟩, ga_TooMany, gg_TooMany, ha_TooMany, fun n hn => by
      have e : fldT "TooMany" = some "most" := by decide
      rw [e] at hn
      cases hn
      exact no_TooMany⟩
  have cf_NoRing : Cf K mg C_RowsError fldT "NoRing" C_NoRing := ⟨PySem.W.mg_of X G aC_NoRing, ⟨_, _, _, _, _, _, _, _, _, _, _, _, _, _, by
      rw [show bmOf C_RowsError "NoRing" = .ref C_RowsError :: veT from if_neg (by decide)]
      exact xL_NoRing⟩, ga_NoRing, gg_NoRing, ha_NoRing, fun n hn => by
      have e : fldT "NoRing" = none := by decide
      rw [e] at hn
      cases hn⟩
  have cf_NoEars : Cf K mg C_RowsError fldT "NoEars" C_NoEars := ⟨PySem.W.mg_of X G aC_NoEars, ⟨_, _, _, _, _, _, _, _, _, _, _, _, _, _, by
      rw [show bmOf C_RowsError "NoEars" = .ref C_RowsError :: veT from if_neg (by decide)]
      exact xL_NoEars⟩, ga_NoEars, gg_NoEars, ha_NoEars, fun n hn => by
      have e : fldT "NoEars" = none := by decide
      rw [e] at hn
      cases hn⟩
  have cf_NoAnswer : Cf K mg C_RowsError fldT "NoAnswer" C_NoAnswer := ⟨PySem.W.mg_of X G aC_NoAnswer, ⟨_, _, _, _, _, _, _, _, _, _, _, _, _, _, by
      rw [show bmOf C_RowsError "NoAnswer" = .ref C_RowsError :: veT from if_neg (by decide)]
      exact xL_NoAnswer⟩, ga_NoAnswer, gg_NoAnswer, ha_NoAnswer, fun n hn => by
      have e : fldT "NoAnswer" = none := by decide
      rw [e] at hn
      cases hn⟩
  have cf_NoText : Cf K mg C_RowsError fldT "NoText" C_NoText := ⟨PySem.W.mg_of X G aC_NoText, ⟨_, _, _, _, _, _, _, _, _, _, _, _, _, _, by
      rw [show bmOf C_RowsError "NoText" = .ref C_RowsError :: veT from if_neg (by decide)]
      exact xL_NoText⟩, ga_NoText, gg_NoText, ha_NoText, fun n hn => by
      have e : fldT "NoText" = some "row" := by decide
      rw [e] at hn
      cases hn
      exact no_NoText⟩
  have cf_NoRow : Cf K mg C_RowsError fldT "NoRow" C_NoRow := ⟨PySem.W.mg_of X G aC_NoRow, ⟨_, _, _, _, _, _, _, _, _, _, _, _, _, _, by
      rw [show bmOf C_RowsError "NoRow" = .ref C_RowsError :: veT from if_neg (by decide)]
      exact xL_NoRow⟩, ga_NoRow, gg_NoRow, ha_NoRow, fun n hn => by
      have e : fldT "NoRow" = none := by decide
      rw [e] at hn
      cases hn⟩
  let cl : Str → Option Addr := fun s => List.lookup s [("RowsError", C_RowsError), ("BadTable", C_BadTable), ("BadQuestion", C_BadQuestion), ("BadHouse", C_BadHouse), ("NoCover", C_NoCover), ("TooMany", C_TooMany), ("NoRing", C_NoRing), ("NoEars", C_NoEars), ("NoAnswer", C_NoAnswer), ("NoText", C_NoText), ("NoRow", C_NoRow)]
  have N : Cn cl := ⟨C_RowsError, rfl, C_BadTable, rfl, C_BadQuestion, rfl, C_BadHouse, rfl, C_NoCover, rfl, C_TooMany, rfl, C_NoRing, rfl, C_NoEars, rfl, C_NoAnswer, rfl, C_NoText, rfl, C_NoRow, rfl⟩
  have E : Ek K mg ⟨K, cl⟩ fldT := ek_mk (L := [("RowsError", C_RowsError), ("BadTable", C_BadTable), ("BadQuestion", C_BadQuestion), ("BadHouse", C_BadHouse), ("NoCover", C_NoCover), ("TooMany", C_TooMany), ("NoRing", C_NoRing), ("NoEars", C_NoEars), ("NoAnswer", C_NoAnswer), ("NoText", C_NoText), ("NoRow", C_NoRow)]) (fun s => rfl) nd rfl (fun p hp => by
    simp only [List.mem_cons, List.not_mem_nil, or_false] at hp
    rcases hp with rfl | rfl | rfl | rfl | rfl | rfl | rfl | rfl | rfl | rfl | rfl
    · exact cf_RowsError
    · exact cf_BadTable
    · exact cf_BadQuestion
    · exact cf_BadHouse
    · exact cf_NoCover
    · exact cf_TooMany
    · exact cf_NoRing
    · exact cf_NoEars
    · exact cf_NoAnswer
    · exact cf_NoText
    · exact cf_NoRow) hn ht
  have T : Bi mg := ⟨PySem.W.mg_none_of X G z_ValueError, PySem.W.mg_none_of X G z_int, PySem.W.mg_none_of X G z_isinstance, PySem.W.mg_none_of X G z_len, PySem.W.mg_none_of X G z_list, PySem.W.mg_none_of X G z_range⟩
  refine ⟨PySem.W.fnOf "law" "law" (defArgs s_law) (defBody s_law) (defScope s_law) .none kV_law dc_law pm_law an_law cd_law ct__law, fun s v => .of_eq rfl, fun base _ _ => ?_⟩
  have j_BadHouse := i_BadHouse (P := P) (w := w) (base := base) (fun_mk (st := ini 4) lI_BadHouse cI_BadHouse kI_BadHouse) R
  have m_BadHouse : Mk P w K mg base ⟨K, cl⟩ "BadHouse" ["table"] (spI1 K "table") := ⟨C_BadHouse, fI_BadHouse, _, _, rfl, PySem.W.mg_of X G aC_BadHouse, kC_BadHouse, cf_BadHouse.oex sa_BadHouse kC_BadHouse, cf_BadHouse.rx (by decide), in_BadHouse, t_BadHouse, j_BadHouse.1, j_BadHouse.2⟩
  have j_BadQuestion := i_BadQuestion (P := P) (w := w) (base := base) (fun_mk (st := ini 3) lI_BadQuestion cI_BadQuestion kI_BadQuestion) R
  have m_BadQuestion : Mk P w K mg base ⟨K, cl⟩ "BadQuestion" ["at"] (spI1 K "at") := ⟨C_BadQuestion, fI_BadQuestion, _, _, rfl, PySem.W.mg_of X G aC_BadQuestion, kC_BadQuestion, cf_BadQuestion.oex sa_BadQuestion kC_BadQuestion, cf_BadQuestion.rx (by decide), in_BadQuestion, t_BadQuestion, j_BadQuestion.1, j_BadQuestion.2⟩
  have j_BadTable := i_BadTable (P := P) (w := w) (base := base) (fun_mk (st := ini 2) lI_BadTable cI_BadTable kI_BadTable) R
  have m_BadTable : Mk P w K mg base ⟨K, cl⟩ "BadTable" ["at"] (spI1 K "at") := ⟨C_BadTable, fI_BadTable, _, _, rfl, PySem.W.mg_of X G aC_BadTable, kC_BadTable, cf_BadTable.oex sa_BadTable kC_BadTable, cf_BadTable.rx (by decide), in_BadTable, t_BadTable, j_BadTable.1, j_BadTable.2⟩
  have j_NoAnswer := i_NoAnswer (P := P) (w := w) (base := base) (fun_mk (st := ini 9) lI_NoAnswer cI_NoAnswer kI_NoAnswer) R
  have m_NoAnswer : Mk P w K mg base ⟨K, cl⟩ "NoAnswer" [] (spI0 K) := ⟨C_NoAnswer, fI_NoAnswer, _, _, rfl, PySem.W.mg_of X G aC_NoAnswer, kC_NoAnswer, cf_NoAnswer.oex sa_NoAnswer kC_NoAnswer, cf_NoAnswer.rx (by decide), in_NoAnswer, t_NoAnswer, j_NoAnswer.1, j_NoAnswer.2⟩
  have j_NoCover := i_NoCover (P := P) (w := w) (base := base) (fun_mk (st := ini 5) lI_NoCover cI_NoCover kI_NoCover) R
  have m_NoCover : Mk P w K mg base ⟨K, cl⟩ "NoCover" ["column"] (spI1 K "column") := ⟨C_NoCover, fI_NoCover, _, _, rfl, PySem.W.mg_of X G aC_NoCover, kC_NoCover, cf_NoCover.oex sa_NoCover kC_NoCover, cf_NoCover.rx (by decide), in_NoCover, t_NoCover, j_NoCover.1, j_NoCover.2⟩
  have j_NoEars := i_NoEars (P := P) (w := w) (base := base) (fun_mk (st := ini 8) lI_NoEars cI_NoEars kI_NoEars) R
  have m_NoEars : Mk P w K mg base ⟨K, cl⟩ "NoEars" [] (spI0 K) := ⟨C_NoEars, fI_NoEars, _, _, rfl, PySem.W.mg_of X G aC_NoEars, kC_NoEars, cf_NoEars.oex sa_NoEars kC_NoEars, cf_NoEars.rx (by decide), in_NoEars, t_NoEars, j_NoEars.1, j_NoEars.2⟩
  have j_NoRing := i_NoRing (P := P) (w := w) (base := base) (fun_mk (st := ini 7) lI_NoRing cI_NoRing kI_NoRing) R
  have m_NoRing : Mk P w K mg base ⟨K, cl⟩ "NoRing" [] (spI0 K) := ⟨C_NoRing, fI_NoRing, _, _, rfl, PySem.W.mg_of X G aC_NoRing, kC_NoRing, cf_NoRing.oex sa_NoRing kC_NoRing, cf_NoRing.rx (by decide), in_NoRing, t_NoRing, j_NoRing.1, j_NoRing.2⟩
  have j_NoRow := i_NoRow (P := P) (w := w) (base := base) (fun_mk (st := ini 11) lI_NoRow cI_NoRow kI_NoRow) R
  have m_NoRow : Mk P w K mg base ⟨K, cl⟩ "NoRow" [] (spI0 K) := ⟨C_NoRow, fI_NoRow, _, _, rfl, PySem.W.mg_of X G aC_NoRow, kC_NoRow, cf_NoRow.oex sa_NoRow kC_NoRow, cf_NoRow.rx (by decide), in_NoRow, t_NoRow, j_NoRow.1, j_NoRow.2⟩
  have j_NoText := i_NoText (P := P) (w := w) (base := base) (fun_mk (st := ini 10) lI_NoText cI_NoText kI_NoText) R
  have m_NoText : Mk P w K mg base ⟨K, cl⟩ "NoText" ["row"] (spI1 K "row") := ⟨C_NoText, fI_NoText, _, _, rfl, PySem.W.mg_of X G aC_NoText, kC_NoText, cf_NoText.oex sa_NoText kC_NoText, cf_NoText.rx (by decide), in_NoText, t_NoText, j_NoText.1, j_NoText.2⟩
  have m_RowsError : MkB K mg ⟨K, cl⟩ "RowsError" := ⟨C_RowsError, rfl, PySem.W.mg_of X G aC_RowsError, ex, kC_RowsError, cf_RowsError.sb, cf_RowsError.ty⟩
  have j_TooMany := i_TooMany (P := P) (w := w) (base := base) (fun_mk (st := ini 6) lI_TooMany cI_TooMany kI_TooMany) R
  have m_TooMany : Mk P w K mg base ⟨K, cl⟩ "TooMany" ["most"] (spI1 K "most") := ⟨C_TooMany, fI_TooMany, _, _, rfl, PySem.W.mg_of X G aC_TooMany, kC_TooMany, cf_TooMany.oex sa_TooMany kC_TooMany, cf_TooMany.rx (by decide), in_TooMany, t_TooMany, j_TooMany.1, j_TooMany.2⟩
  have D__law_take := d__law_take (P := P) (w := w) (base := base) (cl := cl) ⟨_, _, fun_mk (st := s__law_take) l__law_take c__law_take kp__law_take, PySem.W.mg_of X G a__law_take⟩ T
  have D__law_box := d__law_box (P := P) (w := w) (base := base) (cl := cl) ⟨_, _, fun_mk (st := s__law_box) l__law_box c__law_box kp__law_box, PySem.W.mg_of X G a__law_box⟩ T
  have D__law_name := d__law_name (P := P) (w := w) (base := base) (cl := cl) ⟨_, _, fun_mk (st := s__law_name) l__law_name c__law_name kp__law_name, PySem.W.mg_of X G a__law_name⟩ T D__law_take
  have D__law_refuse := d__law_refuse (P := P) (w := w) (base := base) (cl := cl) ⟨_, _, fun_mk (st := s__law_refuse) l__law_refuse c__law_refuse kp__law_refuse, PySem.W.mg_of X G a__law_refuse⟩ T E N m_BadHouse m_BadQuestion m_BadTable m_NoAnswer m_NoCover m_NoEars m_NoRing m_NoRow m_NoText m_RowsError m_TooMany
  have D__law_sorts := d__law_sorts (P := P) (w := w) (base := base) (cl := cl) ⟨_, _, fun_mk (st := s__law_sorts) l__law_sorts c__law_sorts kp__law_sorts, PySem.W.mg_of X G a__law_sorts⟩ T E N D__law_refuse
  have D__law_field := d__law_field (P := P) (w := w) (base := base) (cl := cl) ⟨_, _, fun_mk (st := s__law_field) l__law_field c__law_field kp__law_field, PySem.W.mg_of X G a__law_field⟩ T E N D__law_refuse
  exact (d_law (P := P) (w := w) (base := base) (cl := cl) (fun_mk (st := s_law) l_law c_law kp_law) T E N D__law_box D__law_field D__law_name D__law_sorts D__law_take m_BadHouse m_NoText).imp fun _ _ _ _ q => q cl
theorem walk {l : PySem.W.OpenLaw} {q : Program} {loose : List Str} {XP : (Str → Option Value) → Heap → Prop} {YP : World → Heap → Prop} {d : DefRec} {K : Params → PySem.W.Frag} (hn : l.most = some 63) (hdf : d.params.defaults = [])
    (hY : ∀ (w : World) (h : Heap), YP w h → (K w.params).In h)
    (F : ∀ (w : World) (mg : Str → Option Value) (fa : Addr) (h : Heap), (K w.params).In h → h.Ns mainGlobals mg → mg d.name = some (.ref fa) →
      ∃ fd : FuncData, (∀ (s : Shared) (u : Value), BindsTo s fd ⟨[u], []⟩ [("_law_script", u)]) ∧ ∀ base : Heap, (K w.params).In base → base.Ns mainGlobals mg → FnOk l.prog w (K w.params) mg base (L2.CX l.prog w) k_law fa fd ["_law_script"] (spL w (K w.params))) :
    PySem.W.WalkO q loose XP YP l.row.toRowW d [] (fun f vs => PySem.call f vs) :=
  L2.walk_of (n := 63) (k := k_law) (x := "_law_script") (CX := fun w => L2.CX l.prog w) (sp := fun w => spL w (K w.params)) hn (by decide) hdf ⟨rfl, by decide, by decide⟩ hY F
    (fun w H a ns hl _ hS cl => law_end hl hS) fun _ _ _ _ _ z => by
      obtain ⟨_, _, _, _, _, _, _, _, _, _, _, _, z⟩ := z
      exact z
end
end MR

open PySem PySem.W PyProof.Rows
set_option maxHeartbeats 0 in
theorem PySem.Challenge.cw_mostrows_k10_what_refusals_are_holds : PySem.Challenge.rw_mostrows_k10_what_refusals_are.Holds := by
  w_on; o_law; k_head; (case hw => w_witness2)
  k_fill
  refine MR.walk (l := PySem.Challenge.rw_mostrows_k10_what_refusals_are) rfl rfl (fun w h Y => PySem.W.kIn_of Y) ?F
  case F =>
    intro w mg fa h KX G hmg
    refine' MR.all_mk KX G hmg ?aC_RowsError ?xL_RowsError ?ga_RowsError ?gg_RowsError ?ha_RowsError ?kC_RowsError ?aC_BadTable ?xL_BadTable ?ga_BadTable ?gg_BadTable ?ha_BadTable ?kC_BadTable ?no_BadTable ?sa_BadTable ?in_BadTable ?t_BadTable ?lI_BadTable ?cI_BadTable ?kI_BadTable ?aC_BadQuestion ?xL_BadQuestion ?ga_BadQuestion ?gg_BadQuestion ?ha_BadQuestion ?kC_BadQuestion ?no_BadQuestion ?sa_BadQuestion ?in_BadQuestion ?t_BadQuestion ?lI_BadQuestion ?cI_BadQuestion ?kI_BadQuestion ?aC_BadHouse ?xL_BadHouse ?ga_BadHouse ?gg_BadHouse ?ha_BadHouse ?kC_BadHouse ?no_BadHouse ?sa_BadHouse ?in_BadHouse ?t_BadHouse ?lI_BadHouse ?cI_BadHouse ?kI_BadHouse ?aC_NoCover ?xL_NoCover ?ga_NoCover ?gg_NoCover ?ha_NoCover ?kC_NoCover ?no_NoCover ?sa_NoCover ?in_NoCover ?t_NoCover ?lI_NoCover ?cI_NoCover ?kI_NoCover ?aC_TooMany ?xL_TooMany ?ga_TooMany ?gg_TooMany ?ha_TooMany ?kC_TooMany ?no_TooMany ?sa_TooMany ?in_TooMany ?t_TooMany ?lI_TooMany ?cI_TooMany ?kI_TooMany ?aC_NoRing ?xL_NoRing ?ga_NoRing ?gg_NoRing ?ha_NoRing ?kC_NoRing ?sa_NoRing ?in_NoRing ?t_NoRing ?lI_NoRing ?cI_NoRing ?kI_NoRing ?aC_NoEars ?xL_NoEars ?ga_NoEars ?gg_NoEars ?ha_NoEars ?kC_NoEars ?sa_NoEars ?in_NoEars ?t_NoEars ?lI_NoEars ?cI_NoEars ?kI_NoEars ?aC_NoAnswer ?xL_NoAnswer ?ga_NoAnswer ?gg_NoAnswer ?ha_NoAnswer ?kC_NoAnswer ?sa_NoAnswer ?in_NoAnswer ?t_NoAnswer ?lI_NoAnswer ?cI_NoAnswer ?kI_NoAnswer ?aC_NoText ?xL_NoText ?ga_NoText ?gg_NoText ?ha_NoText ?kC_NoText ?no_NoText ?sa_NoText ?in_NoText ?t_NoText ?lI_NoText ?cI_NoText ?kI_NoText ?aC_NoRow ?xL_NoRow ?ga_NoRow ?gg_NoRow ?ha_NoRow ?kC_NoRow ?sa_NoRow ?in_NoRow ?t_NoRow ?lI_NoRow ?cI_NoRow ?kI_NoRow ?r1 ?r2 ?r3 ?hn ?ht ?ex ?a__law_take ?l__law_take ?c__law_take ?kp__law_take ?a__law_box ?l__law_box ?c__law_box ?kp__law_box ?a__law_name ?l__law_name ?c__law_name ?kp__law_name ?a__law_refuse ?l__law_refuse ?c__law_refuse ?kp__law_refuse ?a__law_sorts ?l__law_sorts ?c__law_sorts ?kp__law_sorts ?a__law_field ?l__law_field ?c__law_field ?kp__law_field ?a_law ?l_law ?c_law ?kp_law ?z_ValueError ?z_int ?z_isinstance ?z_len ?z_list ?z_range ?nd
    (case aC_RowsError => k_is)
    (case xL_RowsError => k_is)
    (case ga_RowsError => k_is)
    (case gg_RowsError => k_is)
    (case ha_RowsError => k_is)
    (case kC_RowsError => k_is)
    (case aC_BadTable => k_is)
    (case xL_BadTable => k_is)
    (case ga_BadTable => k_is)
    (case gg_BadTable => k_is)
    (case ha_BadTable => k_is)
    (case kC_BadTable => k_is)
    (case no_BadTable => k_is)
    (case sa_BadTable => k_is)
    (case in_BadTable => k_is)
    (case t_BadTable => k_is)
    (case lI_BadTable => k_is)
    (case cI_BadTable => k_is)
    (case kI_BadTable => k_is)
    (case aC_BadQuestion => k_is)
    (case xL_BadQuestion => k_is)
    (case ga_BadQuestion => k_is)
    (case gg_BadQuestion => k_is)
    (case ha_BadQuestion => k_is)
    (case kC_BadQuestion => k_is)
    (case no_BadQuestion => k_is)
    (case sa_BadQuestion => k_is)
    (case in_BadQuestion => k_is)
    (case t_BadQuestion => k_is)
    (case lI_BadQuestion => k_is)
    (case cI_BadQuestion => k_is)
    (case kI_BadQuestion => k_is)
    (case aC_BadHouse => k_is)
    (case xL_BadHouse => k_is)
    (case ga_BadHouse => k_is)
    (case gg_BadHouse => k_is)
    (case ha_BadHouse => k_is)
    (case kC_BadHouse => k_is)
    (case no_BadHouse => k_is)
    (case sa_BadHouse => k_is)
    (case in_BadHouse => k_is)
    (case t_BadHouse => k_is)
    (case lI_BadHouse => k_is)
    (case cI_BadHouse => k_is)
    (case kI_BadHouse => k_is)
    (case aC_NoCover => k_is)
    (case xL_NoCover => k_is)
    (case ga_NoCover => k_is)
    (case gg_NoCover => k_is)
    (case ha_NoCover => k_is)
    (case kC_NoCover => k_is)
    (case no_NoCover => k_is)
    (case sa_NoCover => k_is)
    (case in_NoCover => k_is)
    (case t_NoCover => k_is)
    (case lI_NoCover => k_is)
    (case cI_NoCover => k_is)
    (case kI_NoCover => k_is)
    (case aC_TooMany => k_is)
    (case xL_TooMany => k_is)
    (case ga_TooMany => k_is)
    (case gg_TooMany => k_is)
    (case ha_TooMany => k_is)
    (case kC_TooMany => k_is)
    (case no_TooMany => k_is)
    (case sa_TooMany => k_is)
    (case in_TooMany => k_is)
    (case t_TooMany => k_is)
    (case lI_TooMany => k_is)
    (case cI_TooMany => k_is)
    (case kI_TooMany => k_is)
    (case aC_NoRing => k_is)
    (case xL_NoRing => k_is)
    (case ga_NoRing => k_is)
    (case gg_NoRing => k_is)
    (case ha_NoRing => k_is)
    (case kC_NoRing => k_is)
    (case sa_NoRing => k_is)
    (case in_NoRing => k_is)
    (case t_NoRing => k_is)
    (case lI_NoRing => k_is)
    (case cI_NoRing => k_is)
    (case kI_NoRing => k_is)
    (case aC_NoEars => k_is)
    (case xL_NoEars => k_is)
    (case ga_NoEars => k_is)
    (case gg_NoEars => k_is)
    (case ha_NoEars => k_is)
    (case kC_NoEars => k_is)
    (case sa_NoEars => k_is)
    (case in_NoEars => k_is)
    (case t_NoEars => k_is)
    (case lI_NoEars => k_is)
    (case cI_NoEars => k_is)
    (case kI_NoEars => k_is)
    (case aC_NoAnswer => k_is)
    (case xL_NoAnswer => k_is)
    (case ga_NoAnswer => k_is)
    (case gg_NoAnswer => k_is)
    (case ha_NoAnswer => k_is)
    (case kC_NoAnswer => k_is)
    (case sa_NoAnswer => k_is)
    (case in_NoAnswer => k_is)
    (case t_NoAnswer => k_is)
    (case lI_NoAnswer => k_is)
    (case cI_NoAnswer => k_is)
    (case kI_NoAnswer => k_is)
    (case aC_NoText => k_is)
    (case xL_NoText => k_is)
    (case ga_NoText => k_is)
    (case gg_NoText => k_is)
    (case ha_NoText => k_is)
    (case kC_NoText => k_is)
    (case no_NoText => k_is)
    (case sa_NoText => k_is)
    (case in_NoText => k_is)
    (case t_NoText => k_is)
    (case lI_NoText => k_is)
    (case cI_NoText => k_is)
    (case kI_NoText => k_is)
    (case aC_NoRow => k_is)
    (case xL_NoRow => k_is)
    (case ga_NoRow => k_is)
    (case gg_NoRow => k_is)
    (case ha_NoRow => k_is)
    (case kC_NoRow => k_is)
    (case sa_NoRow => k_is)
    (case in_NoRow => k_is)
    (case t_NoRow => k_is)
    (case lI_NoRow => k_is)
    (case cI_NoRow => k_is)
    (case kI_NoRow => k_is)
    (case r1 => k_is)
    (case r2 => k_is)
    (case r3 => k_is)
    (case hn => k_is)
    (case ht => k_is)
    (case ex => kernel_rfl)
    (case a__law_take => k_is)
    (case l__law_take => k_is)
    (case c__law_take => k_is)
    (case kp__law_take => k_is)
    (case a__law_box => k_is)
    (case l__law_box => k_is)
    (case c__law_box => k_is)
    (case kp__law_box => k_is)
    (case a__law_name => k_is)
    (case l__law_name => k_is)
    (case c__law_name => k_is)
    (case kp__law_name => k_is)
    (case a__law_refuse => k_is)
    (case l__law_refuse => k_is)
    (case c__law_refuse => k_is)
    (case kp__law_refuse => k_is)
    (case a__law_sorts => k_is)
    (case l__law_sorts => k_is)
    (case c__law_sorts => k_is)
    (case kp__law_sorts => k_is)
    (case a__law_field => k_is)
    (case l__law_field => k_is)
    (case c__law_field => k_is)
    (case kp__law_field => k_is)
    (case a_law => k_is)
    (case l_law => k_is)
    (case c_law => k_is)
    (case kp_law => k_is)
    (case z_ValueError => k_is)
    (case z_int => k_is)
    (case z_isinstance => k_is)
    (case z_len => k_is)
    (case z_list => k_is)
    (case z_range => k_is)
    (case nd => decide)

