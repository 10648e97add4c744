import PyProof.Rows.All
import Wide.All
import OpenK.AllK
import Wide.FinOn
import HandS.ForMost
import HandS.ForExc
import HandS.TryMany
import HandS.CallSlots
import HandS.Flow
import HandS.Style
import HandS.IsInst
import HandS.Wide
import HandS.TupMul
import HandS.RaiseMore
import PyProof.ReprRoads
import PyProof.ReprBulk
import PyProof.EnumMake
import PyProof.Draws
import KE.GoesMore
import HandS.Iter
import HandS.Zip
import HandS.TupAny
import KE.KSuper
import KE.KExcSuper
import HandS.Exc
import HandS.Call
import HandS.ForSpec
import KE.KExcIs
import HandS.ExcField
import HandS.ExcIs
import HandS.Deep
import PyProof.P3In
import HandS.DictComp
import HandS.IterVal
import HandS.ExcValue
import HandS.HeadHook3
import KE.KRevSl
import HandS.Ends
import HandS.Defaults
import HandS.HeadEnd
import HandS.HeadHook2
import HandS.HotCalls
import KE.KStateDown
import HandS.Words
import HandS.Head0
import HandS.Head1
import HandS.Head2
import HandS.HeadHook1
import PySem.Challenge.RW_bothatonce_k00_errors_and_limits
set_option Elab.async false
set_option linter.all false
set_option maxRecDepth 100000
set_option maxHeartbeats 2000000
/-! DW1: data trees, how they lie in the heap, frames by slots, readings of expressions. -/
namespace DW
open PySem PySem.Spec L2

/-- data as trees; fn: a def or class of the module by its name; ty: a built-in type; scr: the script's list; cell: the counter that callees change -/
inductive D where
  | non | bl (b : Bool) | int (i : Int) | str (x : Str)
  | tup (xs : List D) | lst (xs : List D)
  | dk (kvs : List (Key × D)) | dt (kvs : List (List Key × D))
  | fn (x : Str) | ty (n : String) | scr (xs : List Int) | cell
/-- an error: its class's name, its fields -/
structure XD where
  cls : Str
  fs : List (Str × D)
inductive R (α : Type) where
  | ok (a : α) (c : Int) | exc (x : XD) (c : Int) | bad
def R.bind {α β : Type} (r : R α) (f : α → Int → R β) : R β := match r with
  | .ok a c => f a c
  | .exc x c => .exc x c
  | .bad => .bad
/-- a slot of a frame -/
inductive S where
  | no | val (d : D) | own (d : D) | ex (x : XD)
abbrev Env := List S
abbrev E := Env → Int → R D
abbrev T := Env → Int → R Bool
abbrev EL := Env → Int → R (List D)

/-- the module's part of the world -/
structure Md where
  K : PySem.W.Frag
  mg : Str → Option Value


/-- a tuple, a list of the written part -/
def KTup (K : PySem.W.Frag) (a : Addr) (vs : List V) : Prop := ∃ (o : Obj) (its : Array Value) (n : Nat), K.lookup a = some o ∧ o.cls = .type "tuple" ∧ o.data = .seq its n ∧ its.size ≤ sizeLine ∧ Vals vs its.toList
section
variable (M : Md) (H : Hp) (O : Addr → Prop) (L : Option Addr)
mutual
inductive Rep : V → D → Prop
  | non : Rep .non .non
  | bl (b : Bool) : Rep (.bl b) (.bl b)
  | int (i : Int) : Rep (.int i) (.int i)
  | str (x : Str) : Rep (.str x) (.str x)
  | tup {a : Addr} {vs : List V} {xs : List D} : H a = some (.tup vs) → ¬ O a → RepA vs xs → Rep (.ref a) (.tup xs)
  | tupK {a : Addr} {vs : List V} {xs : List D} : KTup M.K a vs → RepA vs xs → Rep (.ref a) (.tup xs)
  | lst {a : Addr} {vs : List V} {xs : List D} : H a = some (.lst vs) → ¬ O a → RepA vs xs → Rep (.ref a) (.lst xs)
  | dk {a : Addr} {kvs : List (Key × V)} {ds : List (Key × D)} : H a = some (.dK kvs) → ¬ O a → kvs.map (·.1) = ds.map (·.1) → RepA (kvs.map (·.2)) (ds.map (·.2)) → Rep (.ref a) (.dk ds)
  | dt {a : Addr} {kvs : List (List Key × V)} {ds : List (List Key × D)} : H a = some (.dT kvs) → ¬ O a → kvs.map (·.1) = ds.map (·.1) → RepA (kvs.map (·.2)) (ds.map (·.2)) → Rep (.ref a) (.dt ds)
  | fn {x : Str} {f : Addr} : M.mg x = some (.ref f) → Rep (.ref f) (.fn x)
  | ty {n : String} : Rep (.ty n) (.ty n)
  | scr {a : Addr} {ns : List Int} {o : HO} : H a = some o → SqL M.K H a (ns.map V.int) → ¬ O a → Rep (.ref a) (.scr ns)
  | scrK {a : Addr} {ns : List Int} : SqL M.K (fun _ => none) a (ns.map V.int) → Rep (.ref a) (.scr ns)
  | cell {a : Addr} : L = some a → Rep (.ref a) .cell
inductive RepA : List V → List D → Prop
  | nil : RepA [] []
  | cons {v : V} {vs : List V} {d : D} {ds : List D} : Rep v d → RepA vs ds → RepA (v :: vs) (d :: ds)
end
end

/-- what was frozen stands and is frozen -/
def Fz (O : Addr → Prop) (H : Hp) (O' : Addr → Prop) (H' : Hp) : Prop := ∀ a o, H a = some o → ¬ O a → H' a = some o ∧ ¬ O' a
theorem Fz.refl {O : Addr → Prop} {H : Hp} : Fz O H O H := fun _ _ h n => ⟨h, n⟩
theorem Fz.trans {O O1 O2 : Addr → Prop} {H H1 H2 : Hp} (a : Fz O H O1 H1) (b : Fz O1 H1 O2 H2) : Fz O H O2 H2 := fun x o h n => by
  obtain ⟨h1, n1⟩ := a x o h n
  exact b x o h1 n1
theorem sqL_fz {K : PySem.W.Frag} {H H' : Hp} {a : Addr} {vs : List V} (k : ∀ o, H a = some o → H' a = some o) (h : SqL K H a vs) : SqL K H' a vs := by
  rcases h with (h | ⟨o, h⟩) | h
  · exact .inl (.inl (k _ h))
  · exact .inl (.inr ⟨o, k _ h⟩)
  · exact .inr h
theorem KTup.sqT {K : PySem.W.Frag} {H : Hp} {a : Addr} {vs : List V} (h : KTup K a vs) : SqT K H a vs := .inr h
section
variable {M : Md} {H H' : Hp} {O O' : Addr → Prop} {L L' : Option Addr}
mutual
theorem Rep.fz (F : Fz O H O' H') (l : ∀ a, L = some a → L' = some a) : ∀ {v : V} {d : D}, Rep M H O L v d → Rep M H' O' L' v d
  | _, _, .non => .non
  | _, _, .bl b => .bl b
  | _, _, .int i => .int i
  | _, _, .str x => .str x
  | _, _, .tup h n r => .tup (F _ _ h n).1 (F _ _ h n).2 (RepA.fz F l r)
  | _, _, .tupK h r => .tupK h (RepA.fz F l r)
  | _, _, .lst h n r => .lst (F _ _ h n).1 (F _ _ h n).2 (RepA.fz F l r)
  | _, _, .dk h n e r => .dk (F _ _ h n).1 (F _ _ h n).2 e (RepA.fz F l r)
  | _, _, .dt h n e r => .dt (F _ _ h n).1 (F _ _ h n).2 e (RepA.fz F l r)
  | _, _, .fn h => .fn h
  | _, _, .ty => .ty
  | _, _, .scr h s n => .scr (F _ _ h n).1 (sqL_fz (fun o e => (F _ o e n).1) s) (F _ _ h n).2
  | _, _, .scrK s => .scrK s
  | _, _, .cell h => .cell (l _ h)
theorem RepA.fz (F : Fz O H O' H') (l : ∀ a, L = some a → L' = some a) : ∀ {vs : List V} {ds : List D}, RepA M H O L vs ds → RepA M H' O' L' vs ds
  | _, _, .nil => .nil
  | _, _, .cons h r => .cons (Rep.fz F l h) (RepA.fz F l r)
end
theorem RepA.length : ∀ {vs : List V} {ds : List D}, RepA M H O L vs ds → vs.length = ds.length
  | _, _, .nil => rfl
  | _, _, .cons _ r => by rw [List.length_cons, List.length_cons, RepA.length r]
theorem RepA.get : ∀ {vs : List V} {ds : List D} {i : Nat} {d : D}, RepA M H O L vs ds → ds[i]? = some d → ∃ v, vs[i]? = some v ∧ Rep M H O L v d
  | _, _, _, _, .nil, e => by simp at e
  | _, _, 0, d, .cons h _, e => by
    simp at e; subst e; exact ⟨_, rfl, h⟩
  | _, _, i + 1, d, .cons _ r, e => by
    obtain ⟨v, h1, h2⟩ := RepA.get (i := i) (d := d) r (by simpa using e)
    exact ⟨v, by simpa using h1, h2⟩
theorem RepA.getV : ∀ {vs : List V} {ds : List D} {i : Nat} {v : V}, RepA M H O L vs ds → vs[i]? = some v → ∃ d, ds[i]? = some d ∧ Rep M H O L v d
  | _, _, _, _, .nil, e => by simp at e
  | _, _, 0, d, .cons h _, e => by
    simp at e; subst e; exact ⟨_, rfl, h⟩
  | _, _, i + 1, v, .cons _ r, e => by
    obtain ⟨d, h1, h2⟩ := RepA.getV (i := i) (v := v) r (by simpa using e)
    exact ⟨d, by simpa using h1, h2⟩
theorem RepA.append : ∀ {vs ws : List V} {ds es : List D}, RepA M H O L vs ds → RepA M H O L ws es → RepA M H O L (vs ++ ws) (ds ++ es)
  | _, _, _, _, .nil, s => s
  | _, _, _, _, .cons h r, s => .cons h (RepA.append r s)
theorem RepA.set {v : V} {d : D} (h : Rep M H O L v d) : ∀ {vs : List V} {ds : List D} (i : Nat), RepA M H O L vs ds → RepA M H O L (vs.set i v) (ds.set i d)
  | _, _, _, .nil => .nil
  | _, _, 0, .cons _ r => .cons h r
  | _, _, i + 1, .cons q r => .cons q (RepA.set h i r)
theorem RepA.take : ∀ {vs : List V} {ds : List D} (n : Nat), RepA M H O L vs ds → RepA M H O L (vs.take n) (ds.take n)
  | _, _, 0, _ => .nil
  | _, _, _ + 1, .nil => .nil
  | _, _, n + 1, .cons h r => .cons h (RepA.take n r)
theorem RepA.drop : ∀ {vs : List V} {ds : List D} (n : Nat), RepA M H O L vs ds → RepA M H O L (vs.drop n) (ds.drop n)
  | _, _, 0, r => r
  | _, _, _ + 1, .nil => .nil
  | _, _, n + 1, .cons _ r => RepA.drop n r
theorem RepA.flatten : ∀ (k : Nat) {vs : List V} {ds : List D}, RepA M H O L vs ds → RepA M H O L (List.replicate k vs).flatten (List.replicate k ds).flatten
  | 0, _, _, _ => .nil
  | k + 1, _, _, r => by
    rw [List.replicate_succ, List.replicate_succ, List.flatten_cons, List.flatten_cons]
    exact r.append (RepA.flatten k r)
theorem RepA.of_get : ∀ {vs : List V} {ds : List D}, vs.length = ds.length → (∀ (i : Nat) v d, vs[i]? = some v → ds[i]? = some d → Rep M H O L v d) → RepA M H O L vs ds
  | [], [], _, _ => .nil
  | [], _ :: _, h, _ => by simp at h
  | _ :: _, [], h, _ => by simp at h
  | v :: vs, d :: ds, h, f => .cons (f 0 v d rfl rfl) (RepA.of_get (by simpa using h) fun i v' d' h1 h2 => f (i + 1) v' d' (by simpa using h1) (by simpa using h2))
end

/-- an object's content: a list's, a dict's -/
inductive RepH (M : Md) (H : Hp) (O : Addr → Prop) (L : Option Addr) : HO → D → Prop
  | lst {vs : List V} {xs : List D} : RepA M H O L vs xs → RepH M H O L (.lst vs) (.lst xs)
  | dk {kvs : List (Key × V)} {ds : List (Key × D)} : kvs.map (·.1) = ds.map (·.1) → RepA M H O L (kvs.map (·.2)) (ds.map (·.2)) → RepH M H O L (.dK kvs) (.dk ds)
  | dt {kvs : List (List Key × V)} {ds : List (List Key × D)} : kvs.map (·.1) = ds.map (·.1) → RepA M H O L (kvs.map (·.2)) (ds.map (·.2)) → RepH M H O L (.dT kvs) (.dt ds)
theorem RepH.rep {M : Md} {H : Hp} {O : Addr → Prop} {L : Option Addr} {a : Addr} {ho : HO} {d : D} (r : RepH M H O L ho d) (h : H a = some ho) (n : ¬ O a) : Rep M H O L (.ref a) d := by
  cases r with
  | lst r => exact .lst h n r
  | dk e r => exact .dk h n e r
  | dt e r => exact .dt h n e r
theorem RepH.fz {M : Md} {H H' : Hp} {O O' : Addr → Prop} {L L' : Option Addr} (F : Fz O H O' H') (l : ∀ a, L = some a → L' = some a) {ho : HO} {d : D} (r : RepH M H O L ho d) : RepH M H' O' L' ho d := by
  cases r with
  | lst r => exact .lst (r.fz F l)
  | dk e r => exact .dk e (r.fz F l)
  | dt e r => exact .dt e (r.fz F l)
/-- a value that is lent: as Rep, or an own list or dict of frozen items -/
def RepB (M : Md) (H : Hp) (O : Addr → Prop) (L : Option Addr) (v : V) (d : D) : Prop :=
  Rep M H O L v d ∨ ∃ (a : Addr) (ho : HO), v = .ref a ∧ L ≠ some a ∧ H a = some ho ∧ RepH M H O L ho d
inductive RepBA (M : Md) (H : Hp) (O : Addr → Prop) (L : Option Addr) : List V → List D → Prop
  | nil : RepBA M H O L [] []
  | cons {v : V} {vs : List V} {d : D} {ds : List D} : RepB M H O L v d → RepBA M H O L vs ds → RepBA M H O L (v :: vs) (d :: ds)
section
variable {M : Md} {H : Hp} {O : Addr → Prop} {L : Option Addr}
theorem RepA.b : ∀ {vs : List V} {ds : List D}, RepA M H O L vs ds → RepBA M H O L vs ds
  | _, _, .nil => .nil
  | _, _, .cons h r => .cons (.inl h) (RepA.b r)
def D.isObj : D → Bool
  | .lst _ => true
  | .dk _ => true
  | .dt _ => true
  | _ => false
theorem RepB.rep {v : V} {d : D} (h : RepB M H O L v d) (n : d.isObj = false) : Rep M H O L v d := by
  rcases h with h | ⟨a, ho, _, _, _, r⟩
  · exact h
  · cases r <;> cases n
theorem Rep.int_eq {v : V} {i : Int} (h : Rep M H O L v (.int i)) : v = .int i := by cases h; rfl
theorem Rep.str_eq {v : V} {i : Str} (h : Rep M H O L v (.str i)) : v = .str i := by cases h; rfl
theorem Rep.bl_eq {v : V} {i : Bool} (h : Rep M H O L v (.bl i)) : v = .bl i := by cases h; rfl
theorem Rep.lst_eq {v : V} {xs : List D} (h : Rep M H O L v (.lst xs)) : ∃ a vs, v = .ref a ∧ H a = some (.lst vs) ∧ ¬ O a ∧ RepA M H O L vs xs := by
  cases h with
  | lst h1 h2 h3 => exact ⟨_, _, rfl, h1, h2, h3⟩
theorem Rep.tup_eq {v : V} {xs : List D} (h : Rep M H O L v (.tup xs)) : ∃ a vs, v = .ref a ∧ SqT M.K H a vs ∧ RepA M H O L vs xs := by
  cases h with
  | tup h1 h2 h3 => exact ⟨_, _, rfl, .of h1, h3⟩
  | tupK h1 h3 => exact ⟨_, _, rfl, h1.sqT, h3⟩
theorem Rep.scr_eq {v : V} {ns : List Int} (h : Rep M H O L v (.scr ns)) : ∃ a, v = .ref a ∧ SqL M.K H a (ns.map V.int) := by
  cases h with
  | scr h1 h2 h3 => exact ⟨_, rfl, h2⟩
  | scrK h2 => exact ⟨_, rfl, sqL_fz (fun o z => by cases z) h2⟩
theorem RepB.int_eq {v : V} {i : Int} (h : RepB M H O L v (.int i)) : v = .int i := (h.rep rfl).int_eq
theorem RepB.str_eq {v : V} {i : Str} (h : RepB M H O L v (.str i)) : v = .str i := (h.rep rfl).str_eq
theorem RepB.bl_eq {v : V} {i : Bool} (h : RepB M H O L v (.bl i)) : v = .bl i := (h.rep rfl).bl_eq
theorem RepB.lst_eq {v : V} {xs : List D} (h : RepB M H O L v (.lst xs)) : ∃ a vs, v = .ref a ∧ H a = some (.lst vs) ∧ RepA M H O L vs xs := by
  rcases h with h | ⟨a, ho, e1, _, e3, r⟩
  · obtain ⟨a, vs, h1, h2, _, h3⟩ := h.lst_eq
    exact ⟨a, vs, h1, h2, h3⟩
  · cases r with
    | lst r => exact ⟨a, _, e1, e3, r⟩
theorem RepB.dk_eq {v : V} {xs : List (Key × D)} (h : RepB M H O L v (.dk xs)) : ∃ a kvs, v = .ref a ∧ H a = some (.dK kvs) ∧ kvs.map (·.1) = xs.map (·.1) ∧ RepA M H O L (kvs.map (·.2)) (xs.map (·.2)) := by
  rcases h with h | ⟨a, ho, e1, _, e3, r⟩
  · cases h with
    | dk h1 h2 h3 h4 => exact ⟨_, _, rfl, h1, h3, h4⟩
  · cases r with
    | dk e r => exact ⟨a, _, e1, e3, e, r⟩
theorem RepB.dt_eq {v : V} {xs : List (List Key × D)} (h : RepB M H O L v (.dt xs)) : ∃ a kvs, v = .ref a ∧ H a = some (.dT kvs) ∧ kvs.map (·.1) = xs.map (·.1) ∧ RepA M H O L (kvs.map (·.2)) (xs.map (·.2)) := by
  rcases h with h | ⟨a, ho, e1, _, e3, r⟩
  · cases h with
    | dt h1 h2 h3 h4 => exact ⟨_, _, rfl, h1, h3, h4⟩
  · cases r with
    | dt e r => exact ⟨a, _, e1, e3, e, r⟩
theorem RepB.tup_eq {v : V} {xs : List D} (h : RepB M H O L v (.tup xs)) : ∃ a vs, v = .ref a ∧ SqT M.K H a vs ∧ RepA M H O L vs xs := (h.rep rfl).tup_eq
theorem RepB.scr_eq {v : V} {ns : List Int} (h : RepB M H O L v (.scr ns)) : ∃ a, v = .ref a ∧ SqL M.K H a (ns.map V.int) := (h.rep rfl).scr_eq
theorem RepBA.length : ∀ {vs : List V} {ds : List D}, RepBA M H O L vs ds → vs.length = ds.length
  | _, _, .nil => rfl
  | _, _, .cons _ r => by rw [List.length_cons, List.length_cons, RepBA.length r]
theorem repA1 {xs : List V} {d : D} (h : RepBA M H O L xs [d]) : ∃ v, xs = [v] ∧ RepB M H O L v d := by
  cases h with
  | cons h r => cases r; exact ⟨_, rfl, h⟩
theorem repA2 {xs : List V} {d d2 : D} (h : RepBA M H O L xs [d, d2]) : ∃ v v2, xs = [v, v2] ∧ RepB M H O L v d ∧ RepB M H O L v2 d2 := by
  cases h with
  | cons h r =>
    cases r with
    | cons h2 r2 => cases r2; exact ⟨_, _, rfl, h, h2⟩
end

/-! ### the state of a def's frame -/
/-- what a def's body is entered with: the heap, the callers' own lists, the counter's address, the error that a suite handles; Tm: new objects on their way to a slot -/
structure Gd where
  H0 : Hp
  Fo : Addr → Prop
  L : Option Addr
  xo : Option (Addr × Value × Option Addr) := none
  Tm : List (Addr × D) := []
/-- the addresses of own slots -/
def OwnA (σ : St) (ev : Env) (a : Addr) : Prop := ∃ (i : Nat) (d : D), ev[i]? = some (.own d) ∧ σ[i]? = some (some (.ref a))
def Gd.O (G : Gd) (σ : St) (ev : Env) (a : Addr) : Prop := G.Fo a ∨ G.L = some a ∨ OwnA σ ev a ∨ a ∈ G.Tm.map (·.1)
/-- an error as it lies -/
def XRep (M : Md) (H : Hp) (O : Addr → Prop) (L : Option Addr) (cls : Value) (d : Option Addr) (x : XD) : Prop :=
  ∃ (C dd : Addr) (fs : List (Str × V)), cls = .ref C ∧ M.mg x.cls = some (.ref C) ∧ d = some dd ∧ H dd = some (.xd fs) ∧ ¬ O dd ∧ fs.map (·.1) = x.fs.map (·.1) ∧ RepA M H O L (fs.map (·.2)) (x.fs.map (·.2))
def CellOk (H : Hp) (L : Option Addr) (c : Int) : Prop := ∀ a, L = some a → H a = some (.lst [.int c])
/-- all tracked but the counter is as it was -/
def Sm (L : Option Addr) (H H' : Hp) : Prop := ∀ a o, H a = some o → L ≠ some a → H' a = some o
/-- an object of one's own: new since the entry -/
def Ow (M : Md) (G : Gd) (σ : St) (H : Hp) (ev : Env) (a : Addr) (d : D) : Prop := G.H0 a = none ∧ ∃ ho, H a = some ho ∧ RepH M H (G.O σ ev) G.L ho d
structure Gk (M : Md) (G : Gd) (σ : St) (H : Hp) (ev : Env) (c : Int) : Prop where
  len : ev.length = σ.length
  keep : Sm G.L G.H0 H
  cell : CellOk H G.L c
  fo : ∀ a, G.Fo a → G.H0 a ≠ none
  lo : ∀ a, G.L = some a → G.H0 a ≠ none
  val : ∀ (i : Nat) (d : D), ev[i]? = some (.val d) → ∃ v, σ[i]? = some (some v) ∧ Rep M H (G.O σ ev) G.L v d
  own : ∀ (i : Nat) (d : D), ev[i]? = some (.own d) → ∃ (a : Addr), σ[i]? = some (some (.ref a)) ∧ Ow M G σ H ev a d
  dist : ∀ (i j : Nat) (xs ys : D) (a : Addr), ev[i]? = some (.own xs) → ev[j]? = some (.own ys) → σ[i]? = some (some (.ref a)) → σ[j]? = some (some (.ref a)) → i = j
  tm : ∀ p ∈ G.Tm, Ow M G σ H ev p.1 p.2
  tmd : (G.Tm.map (·.1)).Nodup
  tmo : ∀ a ∈ G.Tm.map (·.1), ¬ OwnA σ ev a
  ex : ∀ (i : Nat) (x : XD), ev[i]? = some (.ex x) → ∃ (a : Addr) (cls : Value) (d : Option Addr), G.xo = some (a, cls, d) ∧ σ[i]? = some (some (.ref a)) ∧ XRep M H (G.O σ ev) G.L cls d x
section
variable {M : Md} {G : Gd} {σ : St} {H H' H'' : Hp} {ev : Env} {c c' : Int} {L : Option Addr} {O O' : Addr → Prop}
theorem Sm.refl : Sm L H H := fun _ _ h _ => h
theorem Sm.trans (a : Sm L H H') (b : Sm L H' H'') : Sm L H H'' := fun x o h n => b x o (a x o h n) n
theorem Sm.of_same (a : Same H H') : Sm L H H' := fun x o h _ => a x o h
theorem Sm.fz (s : Sm L H H') (h : ∀ a, L = some a → O a) : Fz O H O H' := fun a o e n => ⟨s a o e fun z => n (h a z), n⟩
theorem Gd.fzSm (s : Sm G.L H H') : Fz (G.O σ ev) H (G.O σ ev) H' := s.fz fun _ z => .inr (.inl z)
theorem same_updN {p : Addr} {o : HO} (h : H p = none) : Same H (upd H p o) := fun b x e => by
  rw [upd_ne (ne_of_none e h)]
  exact e
theorem Rep.sm {v : V} {d : D} (s : Sm G.L H H') (r : Rep M H (G.O σ ev) G.L v d) : Rep M H' (G.O σ ev) G.L v d := r.fz (Gd.fzSm s) fun _ z => z
theorem RepA.sm {v : List V} {d : List D} (s : Sm G.L H H') (r : RepA M H (G.O σ ev) G.L v d) : RepA M H' (G.O σ ev) G.L v d := r.fz (Gd.fzSm s) fun _ z => z
theorem RepH.sm {v : HO} {d : D} (s : Sm G.L H H') (r : RepH M H (G.O σ ev) G.L v d) : RepH M H' (G.O σ ev) G.L v d := r.fz (Gd.fzSm s) fun _ z => z
theorem RepB.sm {v : V} {d : D} (s : Sm G.L H H') (r : RepB M H (G.O σ ev) G.L v d) : RepB M H' (G.O σ ev) G.L v d := by
  rcases r with r | ⟨a, ho, e1, n, e3, r⟩
  · exact .inl (Rep.sm s r)
  · exact .inr ⟨a, ho, e1, n, s a _ e3 n, RepH.sm s r⟩
theorem RepBA.sm : ∀ {v : List V} {d : List D}, Sm G.L H H' → RepBA M H (G.O σ ev) G.L v d → RepBA M H' (G.O σ ev) G.L v d
  | _, _, _, .nil => .nil
  | _, _, s, .cons h r => .cons (RepB.sm s h) (RepBA.sm s r)
theorem XRep.fz {L' : Option Addr} {cls : Value} {d : Option Addr} {x : XD} (F : Fz O H O' H') (l : ∀ a, L = some a → L' = some a) (r : XRep M H O L cls d x) : XRep M H' O' L' cls d x := by
  obtain ⟨C, dd, fs, h1, h2, h3, h4, h5, h6, h7⟩ := r
  exact ⟨C, dd, fs, h1, h2, h3, (F _ _ h4 h5).1, (F _ _ h4 h5).2, h6, h7.fz F l⟩
theorem CellOk.same (s : Same H H') (h : CellOk H L c) : CellOk H' L c := fun a e => s _ _ (h a e)
theorem Gk.ne0 (g : Gk M G σ H ev c) {a : Addr} (h : G.H0 a ≠ none) : H a ≠ none := by
  intro e
  cases q : G.H0 a with
  | none => exact h q
  | some o =>
    by_cases z : G.L = some a
    · have := g.cell a z
      rw [e] at this; cases this
    · have := g.keep a o q z
      rw [e] at this; cases this
theorem Gk.h0 (g : Gk M G σ H ev c) {a : Addr} (h : H a = none) : G.H0 a = none := Classical.byContradiction fun z => g.ne0 z h
theorem Gk.owA (g : Gk M G σ H ev c) {a : Addr} (h : OwnA σ ev a) : ∃ d, Ow M G σ H ev a d := by
  obtain ⟨i, d, h1, h2⟩ := h
  obtain ⟨b, q1, q2⟩ := g.own i d h1
  rw [h2] at q1
  cases q1
  exact ⟨d, q2⟩
theorem Gk.tmA (g : Gk M G σ H ev c) {a : Addr} (h : a ∈ G.Tm.map (·.1)) : ∃ d, Ow M G σ H ev a d := by
  obtain ⟨p, hp, rfl⟩ := List.mem_map.mp h
  exact ⟨_, g.tm p hp⟩
theorem Ow.ne {a : Addr} {d : D} (h : Ow M G σ H ev a d) : H a ≠ none := by
  obtain ⟨_, ho, e, _⟩ := h
  rw [e]
  exact fun z => by cases z
theorem Gk.tr (g : Gk M G σ H ev c) {a : Addr} (h : G.O σ ev a) : H a ≠ none := by
  rcases h with h | h | h | h
  · exact g.ne0 (g.fo a h)
  · exact g.ne0 (g.lo a h)
  · obtain ⟨d, q⟩ := g.owA h
    exact q.ne
  · obtain ⟨d, q⟩ := g.tmA h
    exact q.ne
theorem Ow.sm (g : Gk M G σ H ev c) (s : Sm G.L H H') {a : Addr} {d : D} (h : Ow M G σ H ev a d) : Ow M G σ H' ev a d := by
  obtain ⟨h1, ho, h2, r⟩ := h
  exact ⟨h1, ho, s a _ h2 (fun z => g.lo a z h1), r.sm s⟩
/-- behind an expression -/
theorem Gk.sm (g : Gk M G σ H ev c) (s : Sm G.L H H') (hc : CellOk H' G.L c') : Gk M G σ H' ev c' :=
  ⟨g.len, g.keep.trans s, hc, g.fo, g.lo, fun i d e => let ⟨v, h1, h2⟩ := g.val i d e; ⟨v, h1, h2.sm s⟩,
    fun i xs e => let ⟨a, h1, h2⟩ := g.own i xs e; ⟨a, h1, h2.sm g s⟩, g.dist, fun p hp => (g.tm p hp).sm g s, g.tmd, g.tmo,
    fun i x e => let ⟨a, cls, d, h1, h2, h3⟩ := g.ex i x e; ⟨a, cls, d, h1, h2, h3.fz (Gd.fzSm s) fun _ z => z⟩⟩
theorem Gk.same (g : Gk M G σ H ev c) (s : Same H H') : Gk M G σ H' ev c := g.sm (.of_same s) (g.cell.same s)
theorem fz_sub (h : ∀ a, O' a → O a) : Fz O H O' H := fun a o e n => ⟨e, fun z => n (h a z)⟩

/-! ### changes of slots -/
abbrev Gd.tm (G : Gd) (T : List (Addr × D)) : Gd := { G with Tm := T }
/-- what was owned (in a slot or on its way) -/
def Had (G : Gd) (σ : St) (ev : Env) (a : Addr) (d : D) : Prop := (∃ i : Nat, ev[i]? = some (.own d) ∧ σ[i]? = some (some (.ref a))) ∨ (a, d) ∈ G.Tm
theorem Had.o {a : Addr} {d : D} (h : Had G σ ev a d) : G.O σ ev a := by
  rcases h with ⟨i, h1, h2⟩ | h
  · exact .inr (.inr (.inl ⟨i, d, h1, h2⟩))
  · exact .inr (.inr (.inr (List.mem_map.mpr ⟨_, h, rfl⟩)))
theorem Gk.had (g : Gk M G σ H ev c) {a : Addr} {d : D} (h : Had G σ ev a d) : Ow M G σ H ev a d := by
  rcases h with ⟨i, h1, h2⟩ | h
  · obtain ⟨b, q1, q2⟩ := g.own i d h1
    rw [h2] at q1
    cases q1
    exact q2
  · exact g.tm _ h
/-- slots and objects on their way are dealt anew -/
theorem Gk.deal (g : Gk M G σ H ev c) {σ' : St} {ev' : Env} {T : List (Addr × D)} (len : ev'.length = σ'.length)
    (val : ∀ (i : Nat) (d : D), ev'[i]? = some (.val d) → ∃ v, σ'[i]? = some (some v) ∧ Rep M H (G.O σ ev) G.L v d)
    (own : ∀ (i : Nat) (d : D), ev'[i]? = some (.own d) → ∃ (a : Addr), σ'[i]? = some (some (.ref a)) ∧ Had G σ ev a d)
    (dist : ∀ (i j : Nat) (xs ys : D) (a : Addr), ev'[i]? = some (.own xs) → ev'[j]? = some (.own ys) → σ'[i]? = some (some (.ref a)) → σ'[j]? = some (some (.ref a)) → i = j)
    (tm : ∀ p ∈ T, p ∈ G.Tm) (tmd : (T.map (·.1)).Nodup) (tmo : ∀ a ∈ T.map (·.1), ¬ OwnA σ' ev' a)
    (ex : ∀ (i : Nat) (x : XD), ev'[i]? = some (.ex x) → ∃ (a : Addr) (cls : Value) (d : Option Addr), G.xo = some (a, cls, d) ∧ σ'[i]? = some (some (.ref a)) ∧ XRep M H (G.O σ ev) G.L cls d x) :
    Gk M (G.tm T) σ' H ev' c ∧ Fz (G.O σ ev) H ((G.tm T).O σ' ev') H := by
  have sub : ∀ a, (G.tm T).O σ' ev' a → G.O σ ev a := fun a h => by
    rcases h with h | h | ⟨i, d, h1, h2⟩ | h
    · exact .inl h
    · exact .inr (.inl h)
    · obtain ⟨b, q1, q2⟩ := own i d h1
      rw [h2] at q1
      cases q1
      exact q2.o
    · obtain ⟨p, hp, rfl⟩ := List.mem_map.mp h
      exact .inr (.inr (.inr (List.mem_map.mpr ⟨p, tm p hp, rfl⟩)))
  have F : Fz (G.O σ ev) H ((G.tm T).O σ' ev') H := fz_sub sub
  have ow : ∀ {a : Addr} {d : D}, Ow M G σ H ev a d → Ow M (G.tm T) σ' H ev' a d := fun {a d} ⟨h1, ho, h2, r⟩ => ⟨h1, ho, h2, r.fz F fun _ z => z⟩
  exact ⟨⟨len, g.keep, g.cell, g.fo, g.lo, fun i d e => let ⟨v, h1, r⟩ := val i d e; ⟨v, h1, r.fz F fun _ z => z⟩, fun i d e => let ⟨a, h1, h2⟩ := own i d e; ⟨a, h1, ow (g.had h2)⟩, dist, fun p hp => ow (g.tm p (tm p hp)), tmd, tmo,
    fun i x e => let ⟨a, cls, d, h1, h2, r⟩ := ex i x e; ⟨a, cls, d, h1, h2, r.fz F fun _ z => z⟩⟩, F⟩
end
end DW

set_option Elab.async false
set_option linter.all false
set_option maxRecDepth 100000
set_option maxHeartbeats 2000000
/-! DW2: readings of expressions: what an expression gives is what its mirror gives. -/
namespace DW
open PySem PySem.Spec L2

abbrev _root_.L2.Cx.md (X : Cx) : Md := ⟨X.K, X.mg⟩
/-- what is wanted behind a result -/
def Post {α β : Type} (M : Md) (G : Gd) (σ : L2.St) (H : Hp) (ev : Env) (W : WX) (rel : Hp → β → α → Prop) (Q : β → Hp → Prop) : R α → Prop
  | .ok a c' => ∀ b H', Sm G.L H H' → CellOk H' G.L c' → rel H' b a → Q b H'
  | .exc x c' => ∀ cls dd H', Sm G.L H H' → CellOk H' G.L c' → XRep M H' (G.O σ ev) G.L cls dd x → W cls dd σ H'
  | .bad => False
abbrev Rl (α β : Type) := (Addr → Prop) → Option Addr → Hp → β → α → Prop
abbrev rD (M : Md) : Rl D V := fun O L H v d => Rep M H O L v d
abbrev rBo (M : Md) : Rl D V := fun O L H v d => RepB M H O L v d
abbrev rBA (M : Md) : Rl (List D) (List V) := fun O L H v d => RepBA M H O L v d
abbrev rA (M : Md) : Rl (List D) (List V) := fun O L H v d => RepA M H O L v d
abbrev rB : Rl Bool Bool := fun _ _ _ b b' => b = b'
/-- the reading of a mirror -/
def tG {α β : Type} (M : Md) (xo : Option (Addr × Value × Option Addr)) (rel : Rl α β) (f : Env → Int → R α) (W : WX) : L2.St → Hp → (β → Hp → Prop) → Prop := fun σ H Q =>
  ∃ G ev c, Gk M G σ H ev c ∧ G.xo = xo ∧ Post M G σ H ev W (rel (G.O σ ev) G.L) Q (f ev c)
abbrev Xo := Option (Addr × Value × Option Addr)
def DE (X : Cx) (xo : Xo) (e : Expr) (f : E) : Prop := ∀ W, Takes X W → PE X e (tG X.md xo (rD X.md) f W)
/-- lent values: an own list may be read -/
def DB (X : Cx) (xo : Xo) (e : Expr) (f : E) : Prop := ∀ W, Takes X W → PE X e (tG X.md xo (rBo X.md) f W)
def DBA (X : Cx) (xo : Xo) (es : List Expr) (f : EL) : Prop := ∀ W, Takes X W → PA X es (tG X.md xo (rBA X.md) f W)
def DA (X : Cx) (xo : Xo) (es : List Expr) (f : EL) : Prop := ∀ W, Takes X W → PA X es (tG X.md xo (rA X.md) f W)
def DT (X : Cx) (xo : Xo) (e : Expr) (f : T) : Prop := ∀ W, Takes X W → PT X e (tG X.md xo rB f W)
theorem PEimp {X : Cx} {e : Expr} {t t' : TE} (h : PE X e t) (i : ∀ σ H Q, t' σ H Q → t σ H Q) : PE X e t' := ⟨fun pins s σ H Q I q => h.run pins s σ H Q I (i _ _ _ q)⟩
theorem PTimp {X : Cx} {e : Expr} {t t' : TT} (h : PT X e t) (i : ∀ σ H Q, t' σ H Q → t σ H Q) : PT X e t' := ⟨fun pins s σ H Q I q => h.run pins s σ H Q I (i _ _ _ q)⟩
theorem PWimp {X : Cx} {e : Expr} {t t' : TT} (h : PW X e t) (i : ∀ σ H Q, t' σ H Q → t σ H Q) : PW X e t' := ⟨fun wh pins s σ H Q I q => h.run wh pins s σ H Q I (i _ _ _ q)⟩
theorem PAimp {X : Cx} {e : List Expr} {t t' : TA} (h : PA X e t) (i : ∀ σ H Q, t' σ H Q → t σ H Q) : PA X e t' := ⟨fun pos pins s σ H Q I q => h.run pos pins s σ H Q I (i _ _ _ q)⟩
section
variable {α β α' β' : Type} {M : Md} {G : Gd} {σ : L2.St} {H H1 : Hp} {ev : Env} {c : Int} {W : WX} {rel : Hp → β → α → Prop} {rel' : Hp → β' → α' → Prop} {Q : β → Hp → Prop} {Q1 : β' → Hp → Prop}
theorem Post.from {r : R α} (h : Post M G σ H ev W rel Q r) (s : Sm G.L H H1) : Post M G σ H1 ev W rel Q r := by
  cases r with
  | ok a c' => exact fun b H' s' k q => h b H' (s.trans s') k q
  | exc x c' => exact fun cls dd H' s' k q => h cls dd H' (s.trans s') k q
  | bad => exact h
/-- a first part, then the rest -/
theorem Post.bind {r : R α'} {k : α' → Int → R α} (h : Post M G σ H ev W rel Q (r.bind k)) (hq : ∀ d c1 v H1, Sm G.L H H1 → CellOk H1 G.L c1 → rel' H1 v d → Post M G σ H1 ev W rel Q (k d c1) → Q1 v H1) : Post M G σ H ev W rel' Q1 r := by
  cases r with
  | ok a c' => exact fun v H1 s k1 q => hq a c' v H1 s k1 q (Post.from h s)
  | exc x c' => exact h
  | bad => exact h
theorem tG.mk {xo : Xo} {rl : Rl α β} {f : Env → Int → R α} (g : Gk M G σ H ev c) (hx : G.xo = xo) (h : Post M G σ H ev W (rl (G.O σ ev) G.L) Q (f ev c)) : tG M xo rl f W σ H Q := ⟨G, ev, c, g, hx, h⟩
theorem Post.mono {rel2 : Hp → β → α → Prop} {r : R α} (h : Post M G σ H ev W rel Q r) (i : ∀ H' b a, rel2 H' b a → rel H' b a) : Post M G σ H ev W rel2 Q r := by
  cases r with
  | ok a c' => exact fun b H' s k q => h b H' s k (i _ _ _ q)
  | exc x c' => exact h
  | bad => exact h
end

/-! ### operations by values -/
def rOp (M : Md) (g : D → D → Option D) : R2 := fun x y H Q => ∃ (O : Addr → Prop) (L : Option Addr) (dx dy d : D), (∀ a, O a → H a ≠ none) ∧ RepB M H O L x dx ∧ RepB M H O L y dy ∧ g dx dy = some d ∧ ∀ z H', Same H H' → Rep M H' O L z d → Q z H'
def rUn (M : Md) (g : D → Option D) : V → Hp → VK → Prop := fun x H Q => ∃ (O : Addr → Prop) (L : Option Addr) (dx d : D), (∀ a, O a → H a ≠ none) ∧ RepB M H O L x dx ∧ g dx = some d ∧ ∀ z H', Same H H' → Rep M H' O L z d → Q z H'
def rFn (M : Md) (g : List D → Option D) : List V → Hp → VK → Prop := fun xs H Q => ∃ (O : Addr → Prop) (L : Option Addr) (ds : List D) (d : D), (∀ a, O a → H a ≠ none) ∧ RepBA M H O L xs ds ∧ g ds = some d ∧ ∀ z H', Same H H' → Rep M H' O L z d → Q z H'
abbrev OpD (X : Cx) (f : Value → Value → Sem Value) (g : D → D → Option D) : Prop := OpR X f (rOp X.md g)
abbrev UnD (X : Cx) (f : Value → Sem Value) (g : D → Option D) : Prop := UnR X f (rUn X.md g)
abbrev CallD (X : Cx) (f : Value) (g : List D → Option D) : Prop := CallR X f (rFn X.md g)
abbrev IxD (X : Cx) (g : D → D → Option D) : Prop := IxR X (rOp X.md g)
def R.of {α : Type} (o : Option α) (c : Int) : R α := match o with
  | some a => .ok a c
  | none => .bad
def eBin (g : D → D → Option D) (a b : E) : E := fun ev c => (a ev c).bind fun x c => (b ev c).bind fun y c => R.of (g x y) c
def eUn (g : D → Option D) (a : E) : E := fun ev c => (a ev c).bind fun x c => R.of (g x) c
def eVar (i : Nat) : E := fun ev c => match ev[i]? with
  | some (.val d) => .ok d c
  | _ => .bad
def eK (d : D) : E := fun _ c => .ok d c
section
variable {X : Cx} {xo : Xo} {a b e : Expr} {fa fb f : E} {pos : Pos}
theorem Post.op {M : Md} {G : Gd} {σ : L2.St} {H : Hp} {ev : Env} {c : Int} {W : WX} {Q : V → Hp → Prop} {g : Option D} (k : Gk M G σ H ev c) (h : Post M G σ H ev W (rD M (G.O σ ev) G.L) Q (R.of g c)) :
    ∃ d, g = some d ∧ ∀ z H', Same H H' → Rep M H' (G.O σ ev) G.L z d → Q z H' := by
  cases g with
  | none => exact h.elim
  | some d => exact ⟨d, rfl, fun z H' s r => h z H' (.of_same s) (k.cell.same s) r⟩
theorem DE.bin {op : Operator} {g : D → D → Option D} (ho : OpD X (binaryOp op) g) (ha : DB X xo a fa) (hb : DB X xo b fb) : DE X xo (.BinOp a op b pos) (eBin g fa fb) := fun W hW => by
  refine PEimp (pe_op ho (ha W hW) (hb W hW)) fun σ H Q h => ?_
  obtain ⟨G, ev, c, k, hx, h⟩ := h
  refine tG.mk k hx (Post.bind h fun dx c1 x H1 s1 k1 r1 h1 => ?_)
  refine tG.mk (k.sm s1 k1) hx (Post.bind h1 fun dy c2 y H2 s2 k2 r2 h2 => ?_)
  obtain ⟨d, e, q⟩ := Post.op ((k.sm s1 k1).sm s2 k2) h2
  exact ⟨G.O σ ev, G.L, dx, dy, d, fun a => ((k.sm s1 k1).sm s2 k2).tr, RepB.sm s2 r1, r2, e, q⟩
theorem DE.cmp {op : CmpOp} {g : D → D → Option D} (ho : OpD X (compareOp op) g) (hm : behindInMarks op b = false) (ha : DB X xo a fa) (hb : DB X xo b fb) : DE X xo (.Compare a [op] [b] pos) (eBin g fa fb) := fun W hW => by
  refine PEimp (pe_cmpR ho (ha W hW) (hb W hW) hm) fun σ H Q h => ?_
  obtain ⟨G, ev, c, k, hx, h⟩ := h
  refine tG.mk k hx (Post.bind h fun dx c1 x H1 s1 k1 r1 h1 => ?_)
  refine tG.mk (k.sm s1 k1) hx (Post.bind h1 fun dy c2 y H2 s2 k2 r2 h2 => ?_)
  obtain ⟨d, e, q⟩ := Post.op ((k.sm s1 k1).sm s2 k2) h2
  exact ⟨G.O σ ev, G.L, dx, dy, d, fun a => ((k.sm s1 k1).sm s2 k2).tr, RepB.sm s2 r1, r2, e, q⟩
theorem DE.un {op : UnaryOp} {g : D → Option D} (ho : UnD X (unaryOp op) g) (ha : DB X xo a fa) : DE X xo (.UnaryOp op a pos) (eUn g fa) := fun W hW => by
  refine PEimp (pe_un ho (ha W hW)) fun σ H Q h => ?_
  obtain ⟨G, ev, c, k, hx, h⟩ := h
  refine tG.mk k hx (Post.bind h fun dx c1 x H1 s1 k1 r1 h1 => ?_)
  obtain ⟨d, e, q⟩ := Post.op (k.sm s1 k1) h1
  exact ⟨G.O σ ev, G.L, dx, d, fun a => (k.sm s1 k1).tr, r1, e, q⟩
theorem DE.ix {g : D → D → Option D} (ho : IxD X g) (hs : PlainIx b) (ha : DB X xo a fa) (hb : DB X xo b fb) : DE X xo (.Subscript a b pos) (eBin g fa fb) := fun W hW => by
  refine PEimp (pe_ix ho (ha W hW) (hb W hW) hs) fun σ H Q h => ?_
  obtain ⟨G, ev, c, k, hx, h⟩ := h
  refine tG.mk k hx (Post.bind h fun dx c1 x H1 s1 k1 r1 h1 => ?_)
  refine tG.mk (k.sm s1 k1) hx (Post.bind h1 fun dy c2 y H2 s2 k2 r2 h2 => ?_)
  obtain ⟨d, e, q⟩ := Post.op ((k.sm s1 k1).sm s2 k2) h2
  exact ⟨G.O σ ev, G.L, dx, dy, d, fun a => ((k.sm s1 k1).sm s2 k2).tr, RepB.sm s2 r1, r2, e, q⟩
/-- the scope of a block: which slots are seen, which names are the module's -/
structure Sc (X : Cx) (us : List Nat) (gs : List Str) : Prop where
  vis : ∀ i ∈ us, ∃ x, X.N[i]? = some x ∧ Vis X.env.scope x
  gl : ∀ x ∈ gs, Gl X x
def cDbg (x : Str) : Bool := !(x == ("__debug__" : Str)) && !(x == ("__classdict__" : Str)) && !(x == ("__name__" : Str))
theorem DE.var (i : Nat) {x : Str} (hN : X.N[i]? = some x) (hv : Vis X.env.scope x) (hd : cDbg x = true) : DE X xo (.Name x pos) (eVar i) := fun W hW => by
  unfold cDbg at hd
  simp only [Bool.and_eq_true, Bool.not_eq_true'] at hd
  refine PEimp (pe_var hN hv hd.1.1 hd.1.2) fun σ H Q h => ?_
  obtain ⟨G, ev, c, k, hx, h⟩ := h
  unfold eVar at h
  cases e : ev[i]? with
  | none => rw [e] at h; exact h.elim
  | some z =>
    rw [e] at h
    cases z with
    | val d =>
      obtain ⟨v, h1, h2⟩ := k.val i d e
      exact ⟨v, h1, h v H .refl k.cell h2⟩
    | no => exact h.elim
    | own xs => exact h.elim
    | ex x => exact h.elim
theorem DE.k {v : V} {d : D} (hp : PE X e (tC v)) (r : ∀ H O L, Rep X.md H O L v d) : DE X xo e (eK d) := fun W hW => by
  refine PEimp hp fun σ H Q h => ?_
  obtain ⟨G, ev, c, k, hx, h⟩ := h
  exact h v H .refl k.cell (r _ _ _)
theorem DE.int {i : Int} {j : Nat} : DE X xo (.Constant (.int i) j pos) (eK (.int i)) := DE.k pe_int fun _ _ _ => .int i
theorem DE.bl {i : Bool} {j : Nat} : DE X xo (.Constant (.bool i) j pos) (eK (.bl i)) := DE.k pe_bl fun _ _ _ => .bl i
theorem DE.non {j : Nat} : DE X xo (.Constant .none j pos) (eK .non) := DE.k pe_non fun _ _ _ => .non
theorem DE.str {i : Str} {j : Nat} : DE X xo (.Constant (.str i) j pos) (eK (.str i)) := DE.k pe_str fun _ _ _ => .str i
/-- a constant of the module -/
structure GlobD (M : Md) (x : Str) (d : D) : Prop where
  ex : ∃ v u, M.mg x = some u ∧ RelV v u ∧ ∀ H O L, Rep M H O L v d
theorem DE.glob {x : Str} {d : D} (g : GlobD X.md x d) (hg : Gl X x) (hd : cDbg x = true) : DE X xo (.Name x pos) (eK d) := by
  unfold cDbg at hd
  simp only [Bool.and_eq_true, Bool.not_eq_true'] at hd
  obtain ⟨v, u, h1, h2, h3⟩ := g.ex
  exact DE.k (pe_glob hg h1 h2 hd.1.1) h3
/-- a def of the module as a value -/
theorem DE.fnv {x : Str} {f : Addr} (hm : X.mg x = some (.ref f)) (hg : Gl X x) (hd : cDbg x = true) : DE X xo (.Name x pos) (eK (.fn x)) := by
  unfold cDbg at hd
  simp only [Bool.and_eq_true, Bool.not_eq_true'] at hd
  exact DE.k (v := .ref f) (pe_glob hg hm rfl hd.1.1) fun _ _ _ => .fn hm
/-- a built-in type as a value -/
theorem DE.bty {x : Str} {n : String} (hm : X.mg x = none) (hv : bootBuiltins x = some (.type n)) (hg : Gl X x) (hd : cDbg x = true) : DE X xo (.Name x pos) (eK (.ty n)) := by
  unfold cDbg at hd
  simp only [Bool.and_eq_true, Bool.not_eq_true'] at hd
  exact DE.k (v := .ty n) (pe_bltn hg hm hv rfl (by simpa using hd.2) hd.1.1) fun _ _ _ => .ty
end

/-! ### tests -/
def dTru : D → Option Bool
  | .non => some false
  | .bl b => some b
  | .int i => some (i != 0)
  | .str x => if x.length ≤ sizeLine then some ((x.length : Int) != 0) else none
  | .tup xs => some (!xs.isEmpty)
  | .lst xs => some (!xs.isEmpty)
  | .scr xs => some (!xs.isEmpty)
  | _ => none
def tTru (a : E) : T := fun ev c => (a ev c).bind fun x c => R.of (dTru x) c
def tAnd (a b : T) : T := fun ev c => (a ev c).bind fun x c => if x = true then b ev c else .ok false c
def tOr (a b : T) : T := fun ev c => (a ev c).bind fun x c => if x = true then .ok true c else b ev c
def tNot (a : T) : T := fun ev c => (a ev c).bind fun x c => .ok (!x) c
def eIf (t : T) (a b : E) : E := fun ev c => (t ev c).bind fun x c => if x = true then a ev c else b ev c
/-- a and b, a or b as values -/
def eAnd (a b : E) : E := fun ev c => (a ev c).bind fun x c => (R.of (dTru x) c).bind fun k c => if k = true then b ev c else .ok x c
def eOr (a b : E) : E := fun ev c => (a ev c).bind fun x c => (R.of (dTru x) c).bind fun k c => if k = true then .ok x c else b ev c
def eNot (a : E) : E := fun ev c => (a ev c).bind fun x c => (R.of (dTru x) c).bind fun k c => .ok (.bl (!k)) c
theorem dTru_ok {M : Md} {H : Hp} {O : Addr → Prop} {L : Option Addr} {v : V} {d : D} {k : Bool} (r : RepB M H O L v d) (h : dTru d = some k) : TruV M.K v H k := by
  have ie : ∀ {vs : List V} {xs : List D}, RepA M H O L vs xs → (!xs.isEmpty) = !vs.isEmpty := fun {vs xs} r => by cases r <;> rfl
  rcases r with r | ⟨a, ho, rfl, _, h1, r⟩
  · cases r with
    | non => exact (Option.some.inj h).symm
    | bl b => exact (Option.some.inj h).symm
    | int i => exact (Option.some.inj h).symm
    | str x =>
      have h' : (if x.length ≤ sizeLine then some ((x.length : Int) != 0) else none) = some k := h
      by_cases hz : x.length ≤ sizeLine
      · rw [if_pos hz] at h'; cases h'; exact ⟨hz, rfl⟩
      · rw [if_neg hz] at h'; cases h'
    | tup h1 h2 h3 => cases h; exact .inr (.inl ⟨_, .of h1, ie h3⟩)
    | tupK h1 h3 => cases h; exact .inr (.inl ⟨_, h1.sqT, ie h3⟩)
    | lst h1 h2 h3 => cases h; exact .inl ⟨_, .of h1, ie h3⟩
    | scr h1 h2 h3 => cases h; exact .inl ⟨_, h2, by rename_i ns _; cases ns <;> rfl⟩
    | scrK h2 => cases h; exact .inl ⟨_, sqL_fz (fun o z => by cases z) h2, by rename_i ns; cases ns <;> rfl⟩
    | _ => cases h
  · cases r with
    | lst h3 => cases h; exact .inl ⟨_, .of h1, ie h3⟩
    | dk => cases h
    | dt => cases h
section
variable {X : Cx} {xo : Xo} {a b e : Expr} {fa fb f : E} {ta tb : T} {pos : Pos}
theorem DT.tru (ha : DB X xo a fa) (he : ∀ whole, isTrue a X.env whole = (do let v ← whole; standAt a.pos; holding [v] (truthy v))) : DT X xo a (tTru fa) := fun W hW => by
  refine PTimp (pt_truth (ha W hW) he) fun σ H Q h => ?_
  obtain ⟨G, ev, c, k, hx, h⟩ := h
  refine tG.mk k hx (Post.bind h fun dx c1 x H1 s1 k1 r1 h1 => ?_)
  cases e : dTru dx with
  | none => rw [e] at h1; exact h1.elim
  | some b =>
    rw [e] at h1
    exact ⟨b, dTru_ok r1 e, h1 b H1 .refl k1 rfl⟩
theorem tTru_bin {g : D → D → Option D} (hb : ∀ x y d, g x y = some d → ∃ k, d = .bl k) {ev : Env} {c : Int} : tTru (eBin g fa fb) ev c = (fa ev c).bind fun x c => (fb ev c).bind fun y c => R.of ((g x y).bind dTru) c := by
  unfold tTru eBin
  cases fa ev c with
  | ok x c =>
    show R.bind (R.bind (fb ev c) _) _ = R.bind (fb ev c) _
    cases fb ev c with
    | ok y c =>
      show R.bind (R.of (g x y) c) _ = R.of ((g x y).bind dTru) c
      cases g x y <;> rfl
    | exc _ _ => rfl
    | bad => rfl
  | exc _ _ => rfl
  | bad => rfl
/-- a comparison as a test -/
theorem DT.cmp {op : CmpOp} {g : D → D → Option D} (hbl : ∀ x y d, g x y = some d → ∃ k, d = .bl k) (ho : OpD X (compareOp op) g) (hm : behindInMarks op b = false) (ha : DB X xo a fa) (hb : DB X xo b fb) : DT X xo (.Compare a [op] [b] pos) (tTru (eBin g fa fb)) := fun W hW => by
  refine PTimp (pt_cmpR ho (ha W hW) (hb W hW) hm) fun σ H Q h => ?_
  obtain ⟨G, ev, c, k, hx, h⟩ := h
  rw [tTru_bin hbl] at h
  refine tG.mk k hx (Post.bind h fun dx c1 x H1 s1 k1 r1 h1 => ?_)
  refine tG.mk (k.sm s1 k1) hx (Post.bind h1 fun dy c2 y H2 s2 k2 r2 h2 => ?_)
  cases e : g dx dy with
  | none => rw [e] at h2; exact h2.elim
  | some d =>
    obtain ⟨b, rfl⟩ := hbl _ _ _ e
    rw [e] at h2
    refine ⟨G.O σ ev, G.L, dx, dy, _, fun a => ((k.sm s1 k1).sm s2 k2).tr, RepB.sm s2 r1, r2, e, fun z H' s r => ?_⟩
    cases r
    exact ⟨b, rfl, h2 b H' (.of_same s) (CellOk.same s k2) rfl⟩
/-- a test whose every 'whole' will do -/
def DW' (X : Cx) (xo : Xo) (e : Expr) (f : T) : Prop := ∀ W, Takes X W → PW X e (tG X.md xo rB f W)
theorem DW'.dt (h : DW' X xo e ta) : DT X xo e ta := fun W hW => (h W hW).pt
theorem DW'.and1 (ha : DT X xo a ta) : DW' X xo (.BoolOp .And [a] pos) ta := fun W hW => pw_and1 (ha W hW)
theorem DW'.or1 (ha : DT X xo a ta) : DW' X xo (.BoolOp .Or [a] pos) ta := fun W hW => pw_or1 (ha W hW)
theorem DW'.and {rest : List Expr} (ha : DT X xo a ta) (hb : DW' X xo (.BoolOp .And (b :: rest) pos) tb) : DW' X xo (.BoolOp .And (a :: b :: rest) pos) (tAnd ta tb) := fun W hW => by
  refine PWimp (pw_and (ha W hW) (hb W hW)) fun σ H Q h => ?_
  obtain ⟨G, ev, c, k, hx, h⟩ := h
  refine tG.mk k hx (Post.bind h fun dx c1 x H1 s1 k1 r1 h1 => ?_)
  cases r1
  cases dx with
  | true => exact tG.mk (k.sm s1 k1) hx h1
  | false => exact h1 false H1 .refl k1 rfl
theorem DW'.or {rest : List Expr} (ha : DT X xo a ta) (hb : DW' X xo (.BoolOp .Or (b :: rest) pos) tb) : DW' X xo (.BoolOp .Or (a :: b :: rest) pos) (tOr ta tb) := fun W hW => by
  refine PWimp (pw_or (ha W hW) (hb W hW)) fun σ H Q h => ?_
  obtain ⟨G, ev, c, k, hx, h⟩ := h
  refine tG.mk k hx (Post.bind h fun dx c1 x H1 s1 k1 r1 h1 => ?_)
  cases r1
  cases dx with
  | true => exact h1 true H1 .refl k1 rfl
  | false => exact tG.mk (k.sm s1 k1) hx h1
theorem DT.not (ha : DT X xo a ta) : DT X xo (.UnaryOp .Not a pos) (tNot ta) := fun W hW => by
  refine PTimp (pt_not (ha W hW)) fun σ H Q h => ?_
  obtain ⟨G, ev, c, k, hx, h⟩ := h
  refine tG.mk k hx (Post.bind h fun dx c1 x H1 s1 k1 r1 h1 => ?_)
  cases r1
  exact h1 _ H1 .refl k1 rfl
theorem DE.ifExp {t : Expr} (ht : DT X xo t ta) (ha : DE X xo a fa) (hb : DE X xo b fb) : DE X xo (.IfExp t a b pos) (eIf ta fa fb) := fun W hW => by
  refine PEimp (pe_ifExp (ht W hW) (ha W hW) (hb W hW)) fun σ H Q h => ?_
  obtain ⟨G, ev, c, k, hx, h⟩ := h
  refine tG.mk k hx (Post.bind h fun dx c1 x H1 s1 k1 r1 h1 => ?_)
  cases r1
  cases dx with
  | true => exact tG.mk (k.sm s1 k1) hx h1
  | false => exact tG.mk (k.sm s1 k1) hx h1
theorem DE.bool1 {op : BoolOp} (ha : DE X xo a fa) : DE X xo (.BoolOp op [a] pos) fa := fun W hW => pe_one (ha W hW)
theorem Post.tru {M : Md} {G : Gd} {σ : L2.St} {H : Hp} {ev : Env} {c : Int} {W : WX} {Q : V → Hp → Prop} {x : D} {k : Bool → Int → R D} (h : Post M G σ H ev W (rD M (G.O σ ev) G.L) Q ((R.of (dTru x) c).bind k)) :
    ∃ b, dTru x = some b ∧ Post M G σ H ev W (rD M (G.O σ ev) G.L) Q (k b c) := by
  cases e : dTru x with
  | none => rw [e] at h; exact h.elim
  | some b => rw [e] at h; exact ⟨b, rfl, h⟩
theorem DE.and {rest : List Expr} (ha : DE X xo a fa) (hb : DE X xo (.BoolOp .And (b :: rest) pos) fb) : DE X xo (.BoolOp .And (a :: b :: rest) pos) (eAnd fa fb) := fun W hW => by
  refine PEimp (pe_andT (ha W hW) (hb W hW)) fun σ H Q h => ?_
  obtain ⟨G, ev, c, k, hx, h⟩ := h
  refine tG.mk k hx (Post.bind h fun dx c1 x H1 s1 k1 r1 h1 => ?_)
  obtain ⟨b, e, h1⟩ := Post.tru h1
  refine ⟨b, dTru_ok (.inl r1) e, ?_⟩
  cases b with
  | true => exact tG.mk (k.sm s1 k1) hx h1
  | false => exact h1 _ H1 .refl k1 r1
theorem DE.or {rest : List Expr} (ha : DE X xo a fa) (hb : DE X xo (.BoolOp .Or (b :: rest) pos) fb) : DE X xo (.BoolOp .Or (a :: b :: rest) pos) (eOr fa fb) := fun W hW => by
  refine PEimp (pe_orT (ha W hW) (hb W hW)) fun σ H Q h => ?_
  obtain ⟨G, ev, c, k, hx, h⟩ := h
  refine tG.mk k hx (Post.bind h fun dx c1 x H1 s1 k1 r1 h1 => ?_)
  obtain ⟨b, e, h1⟩ := Post.tru h1
  refine ⟨b, dTru_ok (.inl r1) e, ?_⟩
  cases b with
  | true => exact h1 _ H1 .refl k1 r1
  | false => exact tG.mk (k.sm s1 k1) hx h1
theorem DE.not (ha : DB X xo a fa) : DE X xo (.UnaryOp .Not a pos) (eNot fa) := fun W hW => by
  refine PEimp (pe_notT (ha W hW)) fun σ H Q h => ?_
  obtain ⟨G, ev, c, k, hx, h⟩ := h
  refine tG.mk k hx (Post.bind h fun dx c1 x H1 s1 k1 r1 h1 => ?_)
  obtain ⟨b, e, h1⟩ := Post.tru h1
  exact ⟨b, dTru_ok r1 e, h1 _ H1 .refl k1 (.bl _)⟩
end

/-! ### arguments, displays, calls of built-ins -/
def aNil : EL := fun _ c => .ok [] c
def aCons (a : E) (r : EL) : EL := fun ev c => (a ev c).bind fun x c => (r ev c).bind fun xs c => .ok (x :: xs) c
def eTup (r : EL) : E := fun ev c => (r ev c).bind fun xs c => if xs.length ≤ sizeLine then .ok (.tup xs) c else .bad
def eLst (r : EL) : E := fun ev c => (r ev c).bind fun xs c => if xs.length ≤ sizeLine then .ok (.lst xs) c else .bad
def eFn (g : List D → Option D) (r : EL) : E := fun ev c => (r ev c).bind fun xs c => R.of (g xs) c
section
variable {X : Cx} {xo : Xo} {a b e : Expr} {es : List Expr} {fa fb f : E} {fr : EL} {pos : Pos}
theorem DA.nil : DA X xo [] aNil := fun W hW => by
  refine PAimp pa_nil fun σ H Q h => ?_
  obtain ⟨G, ev, c, k, hx, h⟩ := h
  exact h [] H .refl k.cell .nil
theorem DA.cons (ha : DE X xo e fa) (hr : DA X xo es fr) (hs : starEach (e :: es) X.env = (false, eval e X.env) :: starEach es X.env := by rfl) : DA X xo (e :: es) (aCons fa fr) := fun W hW => by
  refine PAimp (pa_cons (ha W hW) (hr W hW) hs) fun σ H Q h => ?_
  obtain ⟨G, ev, c, k, hx, h⟩ := h
  refine tG.mk k hx (Post.bind h fun dx c1 x H1 s1 k1 r1 h1 => ?_)
  refine tG.mk (k.sm s1 k1) hx (Post.bind h1 fun dy c2 y H2 s2 k2 r2 h2 => ?_)
  exact h2 _ H2 .refl k2 (.cons (Rep.sm s2 r1) r2)
theorem fresh_same {H : Hp} {p : Addr} {o : HO} (h : H p = none) : Same H (upd H p o) := same_updN h
theorem DE.tup {n : Nat} (hr : DA X xo es fr) : DE X xo (.Tuple es n pos) (eTup fr) := fun W hW => by
  refine PEimp (pe_tup (hr W hW)) fun σ H Q h => ?_
  obtain ⟨G, ev, c, k, hx, h⟩ := h
  refine tG.mk k hx (Post.bind h fun ds c1 vs H1 s1 k1 r1 h1 => ?_)
  by_cases hz : ds.length ≤ sizeLine
  · rw [if_pos hz] at h1
    have k2 := k.sm s1 k1
    refine ⟨by rw [RepA.length r1]; exact hz, fun p np => h1 _ _ (.of_same (same_updN np)) (CellOk.same (same_updN np) k1) (.tup upd_same (fun z => k2.tr z np) (RepA.sm (.of_same (same_updN np)) r1))⟩
  · rw [if_neg hz] at h1; exact h1.elim
theorem DE.lst (hr : DA X xo es fr) : DE X xo (.List es pos) (eLst fr) := fun W hW => by
  refine PEimp (pe_lst (hr W hW)) fun σ H Q h => ?_
  obtain ⟨G, ev, c, k, hx, h⟩ := h
  refine tG.mk k hx (Post.bind h fun ds c1 vs H1 s1 k1 r1 h1 => ?_)
  by_cases hz : ds.length ≤ sizeLine
  · rw [if_pos hz] at h1
    have k2 := k.sm s1 k1
    refine ⟨by rw [RepA.length r1]; exact hz, fun p np => h1 _ _ (.of_same (same_updN np)) (CellOk.same (same_updN np) k1) (.lst upd_same (fun z => k2.tr z np) (RepA.sm (.of_same (same_updN np)) r1))⟩
  · rw [if_neg hz] at h1; exact h1.elim
theorem DBA.nil : DBA X xo [] aNil := fun W hW => by
  refine PAimp pa_nil fun σ H Q h => ?_
  obtain ⟨G, ev, c, k, hx, h⟩ := h
  exact h [] H .refl k.cell .nil
theorem DBA.cons (ha : DB X xo e fa) (hr : DBA X xo es fr) (hs : starEach (e :: es) X.env = (false, eval e X.env) :: starEach es X.env := by rfl) : DBA X xo (e :: es) (aCons fa fr) := fun W hW => by
  refine PAimp (pa_cons (ha W hW) (hr W hW) hs) fun σ H Q h => ?_
  obtain ⟨G, ev, c, k, hx, h⟩ := h
  refine tG.mk k hx (Post.bind h fun dx c1 x H1 s1 k1 r1 h1 => ?_)
  refine tG.mk (k.sm s1 k1) hx (Post.bind h1 fun dy c2 y H2 s2 k2 r2 h2 => ?_)
  exact h2 _ H2 .refl k2 (.cons (RepB.sm s2 r1) r2)
theorem DE.db (h : DE X xo e f) : DB X xo e f := fun W hW => by
  refine PEimp (h W hW) fun σ H Q h => ?_
  obtain ⟨G, ev, c, k, hx, h⟩ := h
  exact tG.mk k hx (h.mono fun _ _ _ r => .inl r)
/-- an own list, lent -/
def eBor (i : Nat) : E := fun ev c => match ev[i]? with
  | some (.own d) => .ok d c
  | _ => .bad
theorem DB.own (i : Nat) {x : Str} (hN : X.N[i]? = some x) (hv : Vis X.env.scope x) (hd : cDbg x = true) : DB X xo (.Name x pos) (eBor i) := fun W hW => by
  unfold cDbg at hd
  simp only [Bool.and_eq_true, Bool.not_eq_true'] at hd
  refine PEimp (pe_var hN hv hd.1.1 hd.1.2) fun σ H Q h => ?_
  obtain ⟨G, ev, c, k, hx, h⟩ := h
  unfold eBor at h
  cases e : ev[i]? with
  | none => rw [e] at h; exact h.elim
  | some z =>
    rw [e] at h
    cases z with
    | own xs =>
      obtain ⟨a, h1, h2, ho, h3, h4⟩ := k.own i xs e
      exact ⟨_, h1, h _ H .refl k.cell (.inr ⟨a, ho, rfl, fun z => k.lo a z h2, h3, h4⟩)⟩
    | no => exact h.elim
    | val xs => exact h.elim
    | ex x => exact h.elim
theorem DE.fn_of {t : TA → TE} {g : List D → Option D} (ht : t = tCB (rFn X.md g)) (hp : ∀ W, Takes X W → PE X e (t (tG X.md xo (rBA X.md) fr W))) : DE X xo e (eFn g fr) := fun W hW => by
  subst ht
  refine PEimp (hp W hW) fun σ H Q h => ?_
  obtain ⟨G, ev, c, k, hx, h⟩ := h
  refine tG.mk k hx (Post.bind h fun ds c1 vs H1 s1 k1 r1 h1 => ?_)
  obtain ⟨d, e, q⟩ := Post.op (k.sm s1 k1) h1
  exact ⟨G.O σ ev, G.L, ds, d, fun a => (k.sm s1 k1).tr, r1, e, q⟩
/-- f(e, ..), f a built-in function; T(e, ..), T a built-in type -/
theorem DE.callB {x : Str} {id : String} {p : Pos} {g : List D → Option D} (hc : CallD X (.builtin id) g) (hm : X.mg x = none) (hv : bootBuiltins x = some (.builtin id)) (hg : Gl X x) (hd : cDbg x = true) (ha : DBA X xo (e :: es) fr)
    (he : starEach (e :: es) X.env = (false, eval e X.env) :: starEach es X.env := by rfl) (hpl : (backTo pos (starEach es X.env)).any (·.1) = false := by rfl) : DE X xo (.Call (.Name x p) (e :: es) [] pos) (eFn g fr) := by
  unfold cDbg at hd
  simp only [Bool.and_eq_true, Bool.not_eq_true'] at hd
  exact DE.fn_of rfl fun W hW => pe_callB hc hg hm hv (ha W hW) (by simpa using hd.2) hd.1.1 he hpl
theorem DE.callTy {x : Str} {id : String} {p : Pos} {g : List D → Option D} (hc : CallD X (.type id) g) (hm : X.mg x = none) (hv : bootBuiltins x = some (.type id)) (hg : Gl X x) (hd : cDbg x = true) (ha : DBA X xo (e :: es) fr)
    (he : starEach (e :: es) X.env = (false, eval e X.env) :: starEach es X.env := by rfl) (hpl : (backTo pos (starEach es X.env)).any (·.1) = false := by rfl) : DE X xo (.Call (.Name x p) (e :: es) [] pos) (eFn g fr) := by
  unfold cDbg at hd
  simp only [Bool.and_eq_true, Bool.not_eq_true'] at hd
  exact DE.fn_of rfl fun W hW => pe_callTy hc hg hm hv (ha W hW) (by simpa using hd.2) hd.1.1 he hpl
end
end DW

set_option Elab.async false
set_option linter.all false
set_option maxRecDepth 100000
set_option maxHeartbeats 4000000
/-! DW3: the operators, comparisons, built-ins over data trees. -/
namespace DW
open PySem PySem.Spec L2

/-! ### data of the library -/
mutual
def D.toP : D → PyData
  | .non => .none
  | .bl b => .bool b
  | .int i => .int i
  | .str x => .str x
  | .tup xs => .tuple (toPs xs)
  | .lst xs => .list (toPs xs)
  | _ => .none
def D.toPs : List D → List PyData
  | [] => []
  | x :: xs => D.toP x :: D.toPs xs
end
mutual
/-- plain data, at most so deep, all texts of true signs -/
def D.fit : Nat → D → Bool
  | _, .non => true
  | _, .bl _ => true
  | _, .int _ => true
  | _, .str x => PyData.strOk x
  | n + 1, .tup xs => D.fits n xs
  | n + 1, .lst xs => D.fits n xs
  | _, _ => false
def D.fits : Nat → List D → Bool
  | _, [] => true
  | n, x :: xs => D.fit n x && D.fits n xs
end
mutual
/-- == of data -/
def D.eqv : D → D → Bool
  | .non, .non => true
  | .bl a, .bl b => a == b
  | .bl a, .int j => (if a then 1 else 0) == j
  | .int i, .bl b => i == (if b then 1 else 0)
  | .int i, .int j => i == j
  | .str x, .str y => x == y
  | .lst xs, .lst ys => D.eqvs xs ys
  | .tup xs, .tup ys => D.eqvs xs ys
  | _, _ => false
def D.eqvs : List D → List D → Bool
  | [], [] => true
  | x :: xs, y :: ys => D.eqv x y && D.eqvs xs ys
  | _, _ => false
end
mutual
theorem D.fit_canLay : ∀ (n : Nat) (d : D), d.fit n = true → d.toP.canLay0 = true ∧ d.toP.depth ≤ n
  | n, .non, _ => ⟨rfl, Nat.zero_le _⟩
  | n, .bl _, _ => ⟨rfl, Nat.zero_le _⟩
  | n, .int _, _ => ⟨rfl, Nat.zero_le _⟩
  | n, .str x, h => ⟨by
      have h' : PyData.strOk x = true := by cases n <;> exact h
      exact h', Nat.zero_le _⟩
  | 0, .tup xs, h => by cases h
  | n + 1, .tup xs, h => by
    obtain ⟨a, b⟩ := D.fits_canLay n xs h
    exact ⟨a, Nat.succ_le_succ b⟩
  | 0, .lst xs, h => by cases h
  | n + 1, .lst xs, h => by
    obtain ⟨a, b⟩ := D.fits_canLay n xs h
    exact ⟨a, Nat.succ_le_succ b⟩
  | n, .fn _, h => by cases n <;> cases h
  | n, .ty _, h => by cases n <;> cases h
  | n, .scr _, h => by cases n <;> cases h
  | n, .cell, h => by cases n <;> cases h
theorem D.fits_canLay : ∀ (n : Nat) (ds : List D), D.fits n ds = true → PyData.canLayAll0 (D.toPs ds) = true ∧ PyData.depthAll (D.toPs ds) ≤ n
  | n, [], _ => ⟨rfl, Nat.zero_le _⟩
  | n, x :: xs, h => by
    have h' : (x.fit n && D.fits n xs) = true := by cases n <;> exact h
    obtain ⟨h1, h2⟩ := Bool.and_eq_true_iff.mp h'
    obtain ⟨a, b⟩ := D.fit_canLay n x h1
    obtain ⟨c, d⟩ := D.fits_canLay n xs h2
    refine ⟨?_, ?_⟩
    · show (PyData.canLay0 x.toP && PyData.canLayAll0 (D.toPs xs)) = true
      rw [a, c]; rfl
    · show max (PyData.depth x.toP) (PyData.depthAll (D.toPs xs)) ≤ n
      exact Nat.max_le.mpr ⟨b, d⟩
end
mutual
theorem D.eqv_toP : ∀ (n m : Nat) (x y : D), x.fit n = true → y.fit m = true → PyData.eqv x.toP y.toP = D.eqv x y
  | n, m, .non, y, h1, h2 => by cases y <;> first | rfl | (cases m <;> cases h2)
  | n, m, .bl a, y, h1, h2 => by cases y <;> first | rfl | (cases m <;> cases h2)
  | n, m, .int a, y, h1, h2 => by cases y <;> first | rfl | (cases m <;> cases h2)
  | n, m, .str a, y, h1, h2 => by cases y <;> first | rfl | (cases m <;> cases h2)
  | 0, m, .tup a, y, h1, h2 => by cases h1
  | n + 1, 0, .tup a, y, h1, h2 => by cases y <;> first | rfl | cases h2
  | n + 1, m + 1, .tup a, y, h1, h2 => by
    cases y with
    | tup b => exact D.eqvs_toP n m a b h1 h2
    | non => rfl
    | bl _ => rfl
    | int _ => rfl
    | str _ => rfl
    | lst _ => rfl
    | _ => cases h2
  | 0, m, .lst a, y, h1, h2 => by cases h1
  | n + 1, 0, .lst a, y, h1, h2 => by cases y <;> first | rfl | cases h2
  | n + 1, m + 1, .lst a, y, h1, h2 => by
    cases y with
    | lst b => exact D.eqvs_toP n m a b h1 h2
    | non => rfl
    | bl _ => rfl
    | int _ => rfl
    | str _ => rfl
    | tup _ => rfl
    | _ => cases h2
  | n, m, .dk _, y, h1, _ => by cases n <;> cases h1
  | n, m, .dt _, y, h1, _ => by cases n <;> cases h1
  | n, m, .fn _, y, h1, _ => by cases n <;> cases h1
  | n, m, .ty _, y, h1, _ => by cases n <;> cases h1
  | n, m, .scr _, y, h1, _ => by cases n <;> cases h1
  | n, m, .cell, y, h1, _ => by cases n <;> cases h1
theorem D.eqvs_toP : ∀ (n m : Nat) (xs ys : List D), D.fits n xs = true → D.fits m ys = true → PyData.eqvAll (D.toPs xs) (D.toPs ys) = D.eqvs xs ys
  | n, m, [], [], _, _ => rfl
  | n, m, [], _ :: _, _, _ => rfl
  | n, m, _ :: _, [], _, _ => rfl
  | n, m, x :: xs, y :: ys, h1, h2 => by
    have h1' : (x.fit n && D.fits n xs) = true := by cases n <;> exact h1
    have h2' : (y.fit m && D.fits m ys) = true := by cases m <;> exact h2
    obtain ⟨a, b⟩ := Bool.and_eq_true_iff.mp h1'
    obtain ⟨c, d⟩ := Bool.and_eq_true_iff.mp h2'
    show (PyData.eqv x.toP y.toP && PyData.eqvAll (D.toPs xs) (D.toPs ys)) = (D.eqv x y && D.eqvs xs ys)
    rw [D.eqv_toP n m x y a c, D.eqvs_toP n m xs ys b d]
end
theorem D.shaped {d : D} (h : d.fit 16 = true) : SeqAt.shaped d.toP = true := by
  obtain ⟨a, b⟩ := D.fit_canLay 16 d h
  unfold SeqAt.shaped
  rw [a, decide_eq_true (show d.toP.depth ≤ 64 by omega)]
  rfl
section
variable {M : Md} {H : Hp} {O : Addr → Prop} {L : Option Addr}
mutual
theorem Rep.dp : ∀ (n : Nat) {v : V} {d : D}, Rep M H O L v d → d.fit n = true → Dp M.K H v d.toP
  | _, _, _, .non, _ => .non
  | _, _, _, .bl b, _ => .bl b
  | _, _, _, .int b, _ => .int b
  | _, _, _, .str b, _ => .str b
  | 0, _, _, .tup _ _ _, h => by cases h
  | n + 1, _, _, .tup h1 _ r, h => .tup (.of h1) (RepA.dp n r h)
  | 0, _, _, .tupK _ _, h => by cases h
  | n + 1, _, _, .tupK h1 r, h => .tup h1.sqT (RepA.dp n r h)
  | 0, _, _, .lst _ _ _, h => by cases h
  | n + 1, _, _, .lst h1 _ r, h => .lst (.of h1) (RepA.dp n r h)
  | n, _, _, .dk _ _ _ _, h => by cases n <;> cases h
  | n, _, _, .dt _ _ _ _, h => by cases n <;> cases h
  | n, _, _, .fn _, h => by cases n <;> cases h
  | n, _, _, .ty, h => by cases n <;> cases h
  | n, _, _, .scr _ _ _, h => by cases n <;> cases h
  | n, _, _, .scrK _, h => by cases n <;> cases h
  | n, _, _, .cell _, h => by cases n <;> cases h
theorem RepA.dp : ∀ (n : Nat) {vs : List V} {ds : List D}, RepA M H O L vs ds → D.fits n ds = true → DpAll M.K H vs (D.toPs ds)
  | _, _, _, .nil, _ => .nil
  | n, _, _, .cons (d := x) (ds := xs) h r, q => by
    have q' : (x.fit n && D.fits n xs) = true := by cases n <;> exact q
    obtain ⟨a, b⟩ := Bool.and_eq_true_iff.mp q'
    exact .cons (Rep.dp n h a) (RepA.dp n r b)
end
end

theorem RepB.dp {M : Md} {H : Hp} {O : Addr → Prop} {L : Option Addr} (n : Nat) {v : V} {d : D} (h : RepB M H O L v d) (f : d.fit n = true) : Dp M.K H v d.toP := by
  rcases h with h | ⟨a, ho, rfl, _, h1, r⟩
  · exact Rep.dp n h f
  · cases r with
    | lst r =>
      cases n with
      | zero => cases f
      | succ n => exact .lst (.of h1) (RepA.dp n r f)
    | dk => cases n <;> cases f
    | dt => cases n <;> cases f

/-! ### the operators -/
def dAdd : D → D → Option D
  | .int i, .int j => some (.int (i + j))
  | .str x, .str y => if x.length + y.length ≤ sizeLine then some (.str (x ++ y)) else none
  | .lst xs, .lst ys => if xs.length + ys.length ≤ sizeLine then some (.lst (xs ++ ys)) else none
  | .tup xs, .tup ys => if xs.length + ys.length ≤ sizeLine then some (.tup (xs ++ ys)) else none
  | .bl a, .bl b => some (.int (PyProof.Rows.b2i a + PyProof.Rows.b2i b))
  | .int a, .bl b => some (.int (a + PyProof.Rows.b2i b))
  | _, _ => none
def dSub : D → D → Option D
  | .int i, .int j => some (.int (i - j))
  | .bl a, .bl b => some (.int (PyProof.Rows.b2i a - PyProof.Rows.b2i b))
  | _, _ => none
def mulOk (i j : Int) : Bool := decide (i.natAbs < 2 ^ 64) || (decide (j.natAbs < 2 ^ 64) || decide (i.natAbs.log2 + j.natAbs.log2 < 1000000))
def dMul : D → D → Option D
  | .int i, .int j => if mulOk i j = true then some (.int (i * j)) else none
  | .lst xs, .int k => if decide (k < 2 ^ 63) && (decide (-(2 ^ 63) ≤ k) && decide (xs.length * k.toNat ≤ sizeLine)) then some (.lst (List.replicate k.toNat xs).flatten) else none
  | .tup xs, .int k => if decide (2 ≤ k) && (decide (k ≤ 1000) && (decide (1 ≤ xs.length) && decide (xs.length ≤ 1000))) then some (.tup (List.replicate k.toNat xs).flatten) else none
  | _, _ => none
def divOk (j : Int) : Bool := decide (j ≠ 0) && (decide (j.natAbs < 1073741824) || (decide (0 < j) && decide (j.natAbs.log2 < 9000)))
def dFdiv : D → D → Option D
  | .int i, .int j => if divOk j = true then some (.int (i.fdiv j)) else none
  | _, _ => none
def dMod : D → D → Option D
  | .int i, .int j => if j ≠ 0 then some (.int (i.fmod j)) else none
  | _, _ => none
def dPow : D → D → Option D
  | .int i, .int j => if decide (0 ≤ j) && (decide (j ≤ 1000000) && decide (i.natAbs < 2 ^ 64)) then some (.int (i ^ j.toNat)) else none
  | _, _ => none
def dShl : D → D → Option D
  | .int i, .int j => if decide (0 ≤ j) && (decide (j ≤ 1000000) && decide (i.natAbs < 2 ^ 64)) then some (.int (i * 2 ^ j.toNat)) else none
  | _, _ => none
def dShr : D → D → Option D
  | .int i, .int j => if decide (0 ≤ j) then some (.int (i / 2 ^ j.toNat)) else none
  | _, _ => none
def dAnd : D → D → Option D
  | .int i, .int j => some (.int (Builtin.bitAnd i j))
  | _, _ => none
def dOr : D → D → Option D
  | .int i, .int j => some (.int (Builtin.bitOr i j))
  | _, _ => none
def dXor : D → D → Option D
  | .int i, .int j => some (.int (Builtin.bitXor i j))
  | _, _ => none
def strs2 : D → D → Option Bool
  | .str a, .str b => some (a == b)
  | _, _ => none
def dEq (x y : D) : Option D := match strs2 x y with
  | some b => some (.bl b)
  | none => if x.fit 16 && y.fit 16 then some (.bl (D.eqv x y)) else none
def dNe (x y : D) : Option D := match strs2 x y with
  | some b => some (.bl (!b))
  | none => if x.fit 16 && y.fit 16 then some (.bl (!D.eqv x y)) else none
theorem strs2_some {x y : D} {b : Bool} (h : strs2 x y = some b) : ∃ a c, x = .str a ∧ y = .str c ∧ b = (a == c) := by
  unfold strs2 at h
  split at h
  · cases h; exact ⟨_, _, rfl, rfl, rfl⟩
  · cases h
theorem dec_str2 {a c : Str} : decide (V.str a = V.str c) = (a == c) := by
  rw [Bool.eq_iff_iff]
  simp
def dLt : D → D → Option D
  | .int i, .int j => some (.bl (decide (i < j)))
  | .str x, .str y => some (.bl (decide (x.cps.toList < y.cps.toList)))
  | _, _ => none
def dLe : D → D → Option D
  | .int i, .int j => some (.bl (decide (i ≤ j)))
  | _, _ => none
def dGt : D → D → Option D
  | .int i, .int j => some (.bl (decide (j < i)))
  | _, _ => none
def dGe : D → D → Option D
  | .int i, .int j => some (.bl (decide (j ≤ i)))
  | _, _ => none
def isNon : D → Bool
  | .non => true
  | _ => false
def dIs (x y : D) : Option D := if isNon y then some (.bl (isNon x)) else none
def dIsNot (x y : D) : Option D := if isNon y then some (.bl (!isNon x)) else none
def dNeg : D → Option D
  | .int i => some (.int (-i))
  | _ => none
theorem dEq_bl : ∀ x y d, dEq x y = some d → ∃ k, d = .bl k := fun x y d h => by
  unfold dEq at h
  split at h
  · cases h; exact ⟨_, rfl⟩
  · split at h <;> cases h; exact ⟨_, rfl⟩
theorem dNe_bl : ∀ x y d, dNe x y = some d → ∃ k, d = .bl k := fun x y d h => by
  unfold dNe at h
  split at h
  · cases h; exact ⟨_, rfl⟩
  · split at h <;> cases h; exact ⟨_, rfl⟩
theorem dLt_bl : ∀ x y d, dLt x y = some d → ∃ k, d = .bl k := fun x y d h => by
  unfold dLt at h; split at h <;> cases h <;> exact ⟨_, rfl⟩
theorem dLe_bl : ∀ x y d, dLe x y = some d → ∃ k, d = .bl k := fun x y d h => by
  unfold dLe at h; split at h <;> cases h; exact ⟨_, rfl⟩
theorem dGt_bl : ∀ x y d, dGt x y = some d → ∃ k, d = .bl k := fun x y d h => by
  unfold dGt at h; split at h <;> cases h; exact ⟨_, rfl⟩
theorem dGe_bl : ∀ x y d, dGe x y = some d → ∃ k, d = .bl k := fun x y d h => by
  unfold dGe at h; split at h <;> cases h; exact ⟨_, rfl⟩
theorem dIs_bl : ∀ x y d, dIs x y = some d → ∃ k, d = .bl k := fun x y d h => by
  unfold dIs at h; split at h <;> cases h; exact ⟨_, rfl⟩
theorem dIsNot_bl : ∀ x y d, dIsNot x y = some d → ∃ k, d = .bl k := fun x y d h => by
  unfold dIsNot at h; split at h <;> cases h; exact ⟨_, rfl⟩
theorem mulOk_ok {i j : Int} (h : mulOk i j = true) : IntMulOk i j := by
  unfold mulOk at h
  simp only [Bool.or_eq_true, decide_eq_true_eq] at h
  rcases h with h | h | h
  · exact (show CMul i j from .inl ⟨by omega, by omega⟩).ok
  · exact (show CMul i j from .inr ⟨by omega, by omega⟩).ok
  · exact (show CMulW i j from h).ok
section
variable {X : Cx} {pins : List (Addr × Obj)} {s : Shared} {σ : L2.St} {H : Hp}
theorem opd_add : OpD X (binaryOp .Add) dAdd := by
  intro pins s σ H x y v u Q I rx ry ⟨O, L, dx, dy, d, hO, hx, hy, e, q⟩
  unfold dAdd at e
  split at e
  · obtain rfl := hx.int_eq; obtain rfl := hy.int_eq; cases e
    exact op_add pins s σ H _ _ v u Q I rx ry ⟨_, _, rfl, rfl, q _ _ (Same.refl _) (.int _)⟩
  · obtain rfl := hx.str_eq; obtain rfl := hy.str_eq
    split at e <;> cases e
    exact op_add_str pins s σ H _ _ v u Q I rx ry ⟨_, _, rfl, rfl, by assumption, q _ _ (Same.refl _) (.str _)⟩
  · obtain ⟨a1, vs1, rfl, h1, r1⟩ := hx.lst_eq
    obtain ⟨a2, vs2, rfl, h2, r2⟩ := hy.lst_eq
    · · split at e <;> cases e
        exact op_cat pins s σ H _ _ v u Q I rx ry ⟨_, _, _, _, rfl, rfl, h1, h2, by rw [RepA.length r1, RepA.length r2]; assumption, fun p np => q _ _ (same_updN np) (.lst upd_same (fun z => hO _ z np) ((r1.append r2).fz (fun a o e n => ⟨same_updN np a o e, n⟩) fun _ z => z))⟩
  · rename_i xs ys
    split at e <;> cases e
    replace hx := hx.rep rfl
    replace hy := hy.rep rfl
    obtain ⟨p, vs, rfl, h1, r1⟩ := hx.tup_eq
    obtain ⟨p', ws, rfl, h2, r2⟩ := hy.tup_eq
    by_cases hv : vs = []
    · subst hv
      cases r1
      cases rx
      cases ry
      obtain ⟨its, q1, p1, _⟩ := I.tuple h1
      obtain ⟨its2, q2, p2, _⟩ := I.tuple h2
      cases q1
      obtain ⟨⟨cls, dd, data, sl⟩, ho, hc, n, hd⟩ := id p1
      obtain ⟨⟨cls2, dd2, data2, sl2⟩, ho2, hc2, n2, hd2⟩ := id p2
      simp only at hc hd hc2 hd2
      subst hc hd hc2 hd2
      exact concat_meets ⟨_, ho, rfl⟩ ⟨_, ho2, rfl⟩ noFill_tuple_add seq_tuple_add PySem.F.slot_tuple_add PySem.F.entry_tuple_add (PySem.F.args_tuple_add_2 _ _)
        (PyProof.Rows.tuple_addW0 p p' #[] its2.toArray n n2 dd dd2 sl sl2 rfl) ⟨ho, ho2, ⟨.ref p', H, I, rfl, q _ _ (Same.refl _) hy⟩⟩
    · refine op_catT pins s σ H _ _ v u Q I rx ry ⟨_, _, _, _, rfl, rfl, h1, h2, hv, by rw [RepA.length r1, RepA.length r2]; assumption, fun z => ?_, fun _ p np => ?_⟩
      · subst z
        cases r2
        rw [List.append_nil] at q
        exact q _ _ (Same.refl _) hx
      · exact q _ _ (same_updN np) (.tup upd_same (fun z => hO _ z np) ((r1.append r2).fz (fun a o e n => ⟨same_updN np a o e, n⟩) fun _ z => z))
  · obtain rfl := hx.bl_eq; obtain rfl := hy.bl_eq; cases e
    cases rx; cases ry
    exact PyProof.Rows.add_bool ⟨.int _, H, I.tok _, ⟨_, rfl⟩, q _ _ (Same.refl _) (.int _)⟩
  · obtain rfl := hx.int_eq; obtain rfl := hy.bl_eq; cases e
    exact op_add_ib pins s σ H _ _ v u Q I rx ry ⟨_, _, rfl, rfl, q _ _ (Same.refl _) (.int _)⟩
  · cases e
theorem opd_sub : OpD X (binaryOp .Sub) dSub := by
  intro pins s σ H x y v u Q I rx ry ⟨O, L, dx, dy, d, hO, hx, hy, e, q⟩
  unfold dSub at e
  split at e
  · obtain rfl := hx.int_eq; obtain rfl := hy.int_eq; cases e
    exact op_sub pins s σ H _ _ v u Q I rx ry ⟨_, _, rfl, rfl, q _ _ (Same.refl _) (.int _)⟩
  · obtain rfl := hx.bl_eq; obtain rfl := hy.bl_eq; cases e
    cases rx; cases ry
    exact PyProof.Rows.sub_bool ⟨.int _, H, I.tok _, ⟨_, rfl⟩, q _ _ (Same.refl _) (.int _)⟩
  · cases e
theorem op_mulOk : OpR X (binaryOp .Mult) (rI (fun i j => mulOk i j = true) fun i j => .int (i * j)) := opI fun _ _ _ _ _ _ _ hc q => PyProof.Rows.mul_int q (mulOk_ok hc)
theorem iop_mulOk : OpR X (inplaceOp .Mult) (rI (fun i j => mulOk i j = true) fun i j => .int (i * j)) := opI fun _ _ _ _ _ _ _ hc q => PyProof.Rows.imul_int q (mulOk_ok hc)
theorem opd_mul : OpD X (binaryOp .Mult) dMul := by
  intro pins s σ H x y v u Q I rx ry ⟨O, L, dx, dy, d, hO, hx, hy, e, q⟩
  unfold dMul at e
  split at e
  · obtain rfl := hx.int_eq; obtain rfl := hy.int_eq
    split at e <;> cases e
    exact op_mulOk pins s σ H _ _ v u Q I rx ry ⟨_, _, rfl, rfl, by assumption, q _ _ (Same.refl _) (.int _)⟩
  · obtain ⟨a1, vs1, rfl, h1, r1⟩ := hx.lst_eq
    obtain rfl := hy.int_eq
    · split at e <;> cases e
      rename_i z
      simp only [Bool.and_eq_true, decide_eq_true_eq] at z
      exact op_rep pins s σ H _ _ v u Q I rx ry ⟨_, _, _, rfl, rfl, h1, z.2.1, z.1, by rw [RepA.length r1]; exact z.2.2, fun p np => q _ _ (same_updN np) (.lst upd_same (fun z => hO _ z np) ((r1.flatten _).fz (fun a o e n => ⟨same_updN np a o e, n⟩) fun _ z => z))⟩
  · obtain ⟨a1, vs1, rfl, h1, r1⟩ := hx.tup_eq
    obtain rfl := hy.int_eq
    · split at e <;> cases e
      rename_i z
      simp only [Bool.and_eq_true, decide_eq_true_eq] at z
      have hl := RepA.length r1
      exact op_repT pins s σ H _ _ v u Q I rx ry ⟨_, _, _, rfl, rfl, h1, (fun y => by rw [y] at hl; have := z.2.2.1; rw [← hl] at this; exact absurd this (by decide)), z.1, z.2.1, by rw [hl]; exact z.2.2.2, fun p np => q _ _ (same_updN np) (.tup upd_same (fun z => hO _ z np) ((r1.flatten _).fz (fun a o e n => ⟨same_updN np a o e, n⟩) fun _ z => z))⟩
  · cases e
theorem op_fdivOk : OpR X (binaryOp .FloorDiv) (rI (fun _ j => divOk j = true) fun i j => .int (i.fdiv j)) := opI fun i j _ _ _ _ _ hc q => by
  unfold divOk at hc
  simp only [Bool.and_eq_true, Bool.or_eq_true, decide_eq_true_eq] at hc
  rcases hc.2 with h | ⟨h1, h2⟩
  · exact PyProof.Rows.floordiv_int hc.1 q (.inl (PyProof.noPylong_small h))
  · exact PyProof.Rows.floordiv_int hc.1 q (.inl (PyProof.noPylong_of_log2 h2))
theorem opd_fdiv : OpD X (binaryOp .FloorDiv) dFdiv := by
  intro pins s σ H x y v u Q I rx ry ⟨O, L, dx, dy, d, hO, hx, hy, e, q⟩
  unfold dFdiv at e
  split at e
  · obtain rfl := hx.int_eq; obtain rfl := hy.int_eq
    split at e <;> cases e
    exact op_fdivOk pins s σ H _ _ v u Q I rx ry ⟨_, _, rfl, rfl, by assumption, q _ _ (Same.refl _) (.int _)⟩
  · cases e
theorem opd_mod : OpD X (binaryOp .Mod) dMod := by
  intro pins s σ H x y v u Q I rx ry ⟨O, L, dx, dy, d, hO, hx, hy, e, q⟩
  unfold dMod at e
  split at e
  · obtain rfl := hx.int_eq; obtain rfl := hy.int_eq
    split at e <;> cases e
    exact op_modN pins s σ H _ _ v u Q I rx ry ⟨_, _, rfl, rfl, by assumption, q _ _ (Same.refl _) (.int _)⟩
  · cases e
theorem opd_pow : OpD X (binaryOp .Pow) dPow := by
  intro pins s σ H x y v u Q I rx ry ⟨O, L, dx, dy, d, hO, hx, hy, e, q⟩
  unfold dPow at e
  split at e
  · obtain rfl := hx.int_eq; obtain rfl := hy.int_eq
    split at e <;> cases e
    rename_i z
    simp only [Bool.and_eq_true, decide_eq_true_eq] at z
    exact op_pow pins s σ H _ _ v u Q I rx ry ⟨_, _, rfl, rfl, z, q _ _ (Same.refl _) (.int _)⟩
  · cases e
theorem opd_shl : OpD X (binaryOp .LShift) dShl := by
  intro pins s σ H x y v u Q I rx ry ⟨O, L, dx, dy, d, hO, hx, hy, e, q⟩
  unfold dShl at e
  split at e
  · obtain rfl := hx.int_eq; obtain rfl := hy.int_eq
    split at e <;> cases e
    rename_i z
    simp only [Bool.and_eq_true, decide_eq_true_eq] at z
    exact op_shl pins s σ H _ _ v u Q I rx ry ⟨_, _, rfl, rfl, z, q _ _ (Same.refl _) (.int _)⟩
  · cases e
theorem opd_shr : OpD X (binaryOp .RShift) dShr := by
  intro pins s σ H x y v u Q I rx ry ⟨O, L, dx, dy, d, hO, hx, hy, e, q⟩
  unfold dShr at e
  split at e
  · obtain rfl := hx.int_eq; obtain rfl := hy.int_eq
    split at e <;> cases e
    rename_i z
    exact op_shr pins s σ H _ _ v u Q I rx ry ⟨_, _, rfl, rfl, of_decide_eq_true z, q _ _ (Same.refl _) (.int _)⟩
  · cases e
theorem opd_and : OpD X (binaryOp .BitAnd) dAnd := by
  intro pins s σ H x y v u Q I rx ry ⟨O, L, dx, dy, d, hO, hx, hy, e, q⟩
  unfold dAnd at e
  split at e
  · obtain rfl := hx.int_eq; obtain rfl := hy.int_eq; cases e
    exact op_and pins s σ H _ _ v u Q I rx ry ⟨_, _, rfl, rfl, q _ _ (Same.refl _) (.int _)⟩
  · cases e
theorem opd_or : OpD X (binaryOp .BitOr) dOr := by
  intro pins s σ H x y v u Q I rx ry ⟨O, L, dx, dy, d, hO, hx, hy, e, q⟩
  unfold dOr at e
  split at e
  · obtain rfl := hx.int_eq; obtain rfl := hy.int_eq; cases e
    exact op_or pins s σ H _ _ v u Q I rx ry ⟨_, _, rfl, rfl, q _ _ (Same.refl _) (.int _)⟩
  · cases e
theorem opd_xor : OpD X (binaryOp .BitXor) dXor := by
  intro pins s σ H x y v u Q I rx ry ⟨O, L, dx, dy, d, hO, hx, hy, e, q⟩
  unfold dXor at e
  split at e
  · obtain rfl := hx.int_eq; obtain rfl := hy.int_eq; cases e
    exact op_xor pins s σ H _ _ v u Q I rx ry ⟨_, _, rfl, rfl, q _ _ (Same.refl _) (.int _)⟩
  · cases e
theorem opd_eq (hu : X.A.units + 64 < cLine) : OpD X (compareOp .Eq) dEq := by
  intro pins s σ H x y v u Q I rx ry ⟨O, L, dx, dy, d, hO, hx, hy, e, q⟩
  unfold dEq at e
  split at e
  · rename_i b hb
    obtain ⟨a, c, rfl, rfl, rfl⟩ := strs2_some hb
    obtain rfl := hx.str_eq
    obtain rfl := hy.str_eq
    cases e
    exact op_eq pins s σ H _ _ v u Q I rx ry ⟨rfl, by rw [dec_str2]; exact q _ _ (Same.refl _) (.bl _)⟩
  split at e <;> cases e
  rename_i z
  obtain ⟨z1, z2⟩ := Bool.and_eq_true_iff.mp z
  exact op_eqD hu pins s σ H _ _ v u Q I rx ry ⟨_, _, RepB.dp 16 hx z1, RepB.dp 16 hy z2, D.shaped z1, D.shaped z2, by rw [D.eqv_toP 16 16 _ _ z1 z2]; exact q _ _ (Same.refl _) (.bl _)⟩
theorem opd_ne (hu : X.A.units + 64 < cLine) : OpD X (compareOp .NotEq) dNe := by
  intro pins s σ H x y v u Q I rx ry ⟨O, L, dx, dy, d, hO, hx, hy, e, q⟩
  unfold dNe at e
  split at e
  · rename_i b hb
    obtain ⟨a, c, rfl, rfl, rfl⟩ := strs2_some hb
    obtain rfl := hx.str_eq
    obtain rfl := hy.str_eq
    cases e
    exact op_ne pins s σ H _ _ v u Q I rx ry ⟨rfl, by rw [dec_str2]; exact q _ _ (Same.refl _) (.bl _)⟩
  split at e <;> cases e
  rename_i z
  obtain ⟨z1, z2⟩ := Bool.and_eq_true_iff.mp z
  exact op_neD hu pins s σ H _ _ v u Q I rx ry ⟨_, _, RepB.dp 16 hx z1, RepB.dp 16 hy z2, D.shaped z1, D.shaped z2, by rw [D.eqv_toP 16 16 _ _ z1 z2]; exact q _ _ (Same.refl _) (.bl _)⟩
theorem opd_lt : OpD X (compareOp .Lt) dLt := by
  intro pins s σ H x y v u Q I rx ry ⟨O, L, dx, dy, d, hO, hx, hy, e, q⟩
  unfold dLt at e
  split at e
  · obtain rfl := hx.int_eq; obtain rfl := hy.int_eq; cases e
    exact op_lt pins s σ H _ _ v u Q I rx ry ⟨_, _, rfl, rfl, q _ _ (Same.refl _) (.bl _)⟩
  · obtain rfl := hx.str_eq; obtain rfl := hy.str_eq; cases e
    exact op_lt_str pins s σ H _ _ v u Q I rx ry ⟨_, _, rfl, rfl, q _ _ (Same.refl _) (.bl _)⟩
  · cases e
theorem opd_le : OpD X (compareOp .LtE) dLe := by
  intro pins s σ H x y v u Q I rx ry ⟨O, L, dx, dy, d, hO, hx, hy, e, q⟩
  unfold dLe at e
  split at e
  · obtain rfl := hx.int_eq; obtain rfl := hy.int_eq; cases e
    exact op_le pins s σ H _ _ v u Q I rx ry ⟨_, _, rfl, rfl, q _ _ (Same.refl _) (.bl _)⟩
  · cases e
theorem opd_gt : OpD X (compareOp .Gt) dGt := by
  intro pins s σ H x y v u Q I rx ry ⟨O, L, dx, dy, d, hO, hx, hy, e, q⟩
  unfold dGt at e
  split at e
  · obtain rfl := hx.int_eq; obtain rfl := hy.int_eq; cases e
    exact op_gt pins s σ H _ _ v u Q I rx ry ⟨_, _, rfl, rfl, q _ _ (Same.refl _) (.bl _)⟩
  · cases e
theorem opd_ge : OpD X (compareOp .GtE) dGe := by
  intro pins s σ H x y v u Q I rx ry ⟨O, L, dx, dy, d, hO, hx, hy, e, q⟩
  unfold dGe at e
  split at e
  · obtain rfl := hx.int_eq; obtain rfl := hy.int_eq; cases e
    exact op_ge pins s σ H _ _ v u Q I rx ry ⟨_, _, rfl, rfl, q _ _ (Same.refl _) (.bl _)⟩
  · cases e
theorem rep_non {M : Md} {O : Addr → Prop} {L : Option Addr} {v : V} {d : D} (h : RepB M H O L v d) : decide (v = .non) = isNon d := by
  rcases h with h | ⟨a, ho, rfl, _, _, r⟩
  · cases h <;> rfl
  · cases r <;> rfl
theorem opd_is : OpD X (compareOp .Is) dIs := by
  intro pins s σ H x y v u Q I rx ry ⟨O, L, dx, dy, d, hO, hx, hy, e, q⟩
  unfold dIs at e
  split at e <;> cases e
  have ey : dy = .non := by cases dy <;> first | rfl | (rename_i z; cases z)
  subst ey
  have ey : y = .non := by cases hy.rep rfl; rfl
  subst ey
  exact op_isN pins s σ H _ _ v u Q I rx ry ⟨rfl, by rw [rep_non hx]; exact q _ _ (Same.refl _) (.bl _)⟩
theorem opd_isNot : OpD X (compareOp .IsNot) dIsNot := by
  intro pins s σ H x y v u Q I rx ry ⟨O, L, dx, dy, d, hO, hx, hy, e, q⟩
  unfold dIsNot at e
  split at e <;> cases e
  have ey : dy = .non := by cases dy <;> first | rfl | (rename_i z; cases z)
  subst ey
  have ey : y = .non := by cases hy.rep rfl; rfl
  subst ey
  exact op_notN pins s σ H _ _ v u Q I rx ry ⟨rfl, by rw [rep_non hx]; exact q _ _ (Same.refl _) (.bl _)⟩
theorem und_neg : UnD X (unaryOp .USub) dNeg := by
  intro pins s σ H x v Q I rx ⟨O, L, dx, d, hO, hx, e, q⟩
  unfold dNeg at e
  split at e
  · obtain rfl := hx.int_eq; cases e
    exact un_neg pins s σ H _ v Q I rx ⟨_, rfl, q _ _ (Same.refl _) (.int _)⟩
  · cases e

/-! ### subscripts -/
def dIx : D → D → Option D
  | .lst xs, .int i => atI xs i
  | .tup xs, .int i => atI xs i
  | .str x, .int i => if x.length ≤ sizeLine then (atI x.cps.toList i).map fun c => .str ⟨#[c]⟩ else none
  | _, _ => none
theorem RepA.atI {M : Md} {O : Addr → Prop} {L : Option Addr} {vs : List V} {ds : List D} {i : Int} {d : D} (r : RepA M H O L vs ds) (h : L2.atI ds i = some d) : ∃ v, L2.atI vs i = some v ∧ Rep M H O L v d := by
  unfold L2.atI at h ⊢
  rw [RepA.length r]
  cases e : ixN ds.length i with
  | none => rw [e] at h; cases h
  | some j =>
    rw [e] at h
    exact RepA.get r h
theorem ixd : IxD X dIx := by
  intro value slice pins s σ H x y v u Q I rx ry ⟨O, L, dx, dy, d, hO, hx, hy, e, q⟩
  unfold dIx at e
  split at e
  · obtain ⟨a1, vs1, rfl, h1, r1⟩ := hx.lst_eq
    obtain rfl := hy.int_eq
    · obtain ⟨z, h3, h4⟩ := RepA.atI r1 e
      exact ix_list value slice pins s σ H _ _ v u Q I rx ry ⟨_, _, _, _, rfl, rfl, .of h1, h3, q _ _ (Same.refl _) h4⟩
  · obtain ⟨a1, vs1, rfl, h1, r1⟩ := hx.tup_eq
    obtain rfl := hy.int_eq
    obtain ⟨z, h3, h4⟩ := RepA.atI r1 e
    exact ix_tup value slice pins s σ H _ _ v u Q I rx ry ⟨_, _, _, _, rfl, rfl, h1, h3, q _ _ (Same.refl _) h4⟩
  · obtain rfl := hx.str_eq; obtain rfl := hy.int_eq
    split at e
    · rename_i x i hz
      cases z : L2.atI x.cps.toList i with
      | none => rw [z] at e; cases e
      | some c =>
        rw [z] at e; cases e
        exact ix_str value slice pins s σ H _ _ v u Q I rx ry ⟨_, _, _, rfl, rfl, hz, z, q _ _ (Same.refl _) (.str _)⟩
    · cases e
  · cases e
end
end DW

set_option Elab.async false
set_option linter.all false
set_option maxRecDepth 100000
set_option maxHeartbeats 4000000
/-! DW4: calls: of the text's defs, of built-ins. -/
namespace DW
open PySem PySem.Spec L2

/-! ### what a def promises -/
/-- as FnOk, where no repr is under way -/
structure FnG (P : Program) (w : World) (K : PySem.W.Frag) (mg : Str → Option Value) (base : Heap) (CX : CXT) (k : Nat) (f : Addr) (fd : FuncData) (ps : List Str) (sp : Sp) : Prop where
  len : ∀ vs H Q E, sp vs H Q E → vs.length = ps.length
  run : ∀ (A : Around) (fr : List PySem.Env) (s : Shared) (H : Hp) (args : Args) (us : List Value) (vs : List V) (Q : VK) (E : XK), Room k A → A.guards = some [] → Env0 P w K mg base A fr s H → BindsTo s fd args (ps.zip us) → Vals vs us → sp vs H Q E →
    codeAny (model P w) A (.call (.ref f) args) (CR CX fr P w H s Q E) s
abbrev Fn := List D → Int → R D
/-- the promise of a mirror -/
def spD (M : Md) (F : Fn) : Sp := fun vs H Q E => ∃ (Fo : Addr → Prop) (L : Option Addr) (ds : List D) (c : Int), (∀ a, Fo a → H a ≠ none) ∧ CellOk H L c ∧ RepA M H (fun a => Fo a ∨ L = some a) L vs ds ∧
  match F ds c with
  | .ok d c' => ∀ v H', Sm L H H' → CellOk H' L c' → Rep M H' (fun a => Fo a ∨ L = some a) L v d → Q v H'
  | .exc x c' => ∀ cls dd H', Sm L H H' → CellOk H' L c' → XRep M H' (fun a => Fo a ∨ L = some a) L cls dd x → E cls dd H'
  | .bad => False
/-- the name x calls a def whose mirror is F -/
def CallOk (X : Cx) (x : Str) (F : Fn) : Prop := ∃ (k : Nat) (f : Addr) (fd : FuncData) (ps : List Str), FnG X.prog X.w X.K X.mg X.base (L2.CX X.prog X.w) k f fd ps (spD X.md F) ∧ Room k X.A ∧ X.A.guards = some [] ∧ X.mg x = some (.ref f) ∧ PySem.W.keepIn X.K (.ref f) = true ∧ Binds X.K fd ps []
def eCall (F : Fn) (r : EL) : E := fun ev c => (r ev c).bind fun ds c => F ds c
section
variable {X : Cx} {CX : CXT} {k : Nat} {f : Addr} {fd : FuncData} {ps : List Str} {sp : Sp} {xo : Xo} {e : Expr} {es : List Expr} {fr : EL} {x : Str} {p pos : Pos}
theorem run_fnG {pins : List (Addr × Obj)} {σ : L2.St} {H : Hp} {s : Shared} {Q : VK} {us : List Value} {vs : List V} {E : XK} (F : FnG X.prog X.w X.K X.mg X.base CX k f fd ps sp) (hr : Room k X.A) (hg : X.A.guards = some []) (hb : Binds X.K fd ps []) (hx : PassesAt CX X σ E)
    (I : L2.Inv X pins σ H s) (r : Vals vs us) (h : sp vs H Q E) : wpAny (model X.prog X.w) X.A (call (.ref f) us) (EP X pins σ Q) X.xe s := by
  have hl : us.length = ps.length := by rw [← r.length]; exact F.len _ _ _ _ h
  have b := hb s us I.kIn (by rw [List.append_nil]; exact hl)
  rw [List.append_nil] at b
  refine wpAny_call (codeAny_mono (F.run X.A X.stack s H ⟨us, []⟩ us vs Q E hr hg I.env0 b r h) fun r s' hq => ?_)
  cases r with
  | error e => exact hx pins H s e s' I hq
  | ok fl =>
    cases fl with
    | ret u => exact I.after hq
    | next => exact False.elim hq
    | brk => exact False.elim hq
    | cont => exact False.elim hq
/-- from the state of the caller -/
theorem spD_of {M : Md} {G : Gd} {σ : L2.St} {H : Hp} {ev : Env} {c : Int} {W : WX} {Q : V → Hp → Prop} {F : Fn} {vs : List V} {ds : List D} (g : Gk M G σ H ev c) (r : RepA M H (G.O σ ev) G.L vs ds) (h : Post M G σ H ev W (rD M (G.O σ ev) G.L) Q (F ds c)) :
    spD M F vs H Q (fun cls d H' => W cls d σ H') := by
  have hO : (fun a => (G.Fo a ∨ OwnA σ ev a ∨ a ∈ G.Tm.map (·.1)) ∨ G.L = some a) = G.O σ ev := funext fun a => propext ⟨fun z => by
    rcases z with (z | z | z) | z
    · exact .inl z
    · exact .inr (.inr (.inl z))
    · exact .inr (.inr (.inr z))
    · exact .inr (.inl z), fun z => by
    rcases z with z | z | z | z
    · exact .inl (.inl z)
    · exact .inr z
    · exact .inl (.inr (.inl z))
    · exact .inl (.inr (.inr z))⟩
  refine ⟨fun a => G.Fo a ∨ OwnA σ ev a ∨ a ∈ G.Tm.map (·.1), G.L, ds, c, fun a z => g.tr (by rw [← hO]; exact .inl z), g.cell, ?_, ?_⟩
  · rw [hO]; exact r
  · rw [hO]
    cases e : F ds c with
    | ok d c' => rw [e] at h; exact h
    | exc x c' => rw [e] at h; exact h
    | bad => rw [e] at h; exact h
theorem DE.call {F : Fn} (C : CallOk X x F) (hg : Gl X x) (hd : cDbg x = true) (ha : DA X xo (e :: es) fr)
    (he : starEach (e :: es) X.env = (false, eval e X.env) :: starEach es X.env := by rfl) (hpl : (backTo pos (starEach es X.env)).any (·.1) = false := by rfl) : DE X xo (.Call (.Name x p) (e :: es) [] pos) (eCall F fr) := fun W hW => by
  unfold cDbg at hd
  simp only [Bool.and_eq_true, Bool.not_eq_true'] at hd
  obtain ⟨k, f, fd, ps, hF, hr, hgd, hm, hk, hb⟩ := C
  refine ⟨fun pins s σ H Q I h => ?_⟩
  obtain ⟨G, ev, c, g, hx, h⟩ := h
  refine wpAny_Call_Name_kw (ld_glob I hg hm ?_ hd.1.1)
  refine PySem.W.callWith_K (h₀ := X.base) I.ok.mod.kin hk (thn ((ha W hW).run pos pins s σ H (fun vs H1 => spD X.md F vs H1 Q (fun cls d H' => W cls d σ H')) I ?_) fun us s1 ⟨vs, H1, I1, r, q⟩ => ⟨I1.kIn, ?_⟩) he hpl
  · exact tG.mk g hx (Post.bind h fun ds c1 vs H1 s1 k1 r1 h1 => spD_of (g.sm s1 k1) r1 h1)
  · exact run_fnG hF hr hgd hb (passAt hW σ) I1 r q
theorem DE.call0 {F : Fn} (C : CallOk X x F) (hg : Gl X x) (hd : cDbg x = true) : DE X xo (.Call (.Name x p) [] [] pos) (eCall F aNil) := fun W hW => by
  unfold cDbg at hd
  simp only [Bool.and_eq_true, Bool.not_eq_true'] at hd
  obtain ⟨k, f, fd, ps, hF, hr, hgd, hm, hk, hb⟩ := C
  refine ⟨fun pins s σ H Q I h => ?_⟩
  obtain ⟨G, ev, c, g, hx, h⟩ := h
  refine wpAny_Call_Name_kw (ld_glob I hg hm ?_ hd.1.1)
  exact PySem.W.callWith_K0 I.kIn hk (run_fnG (us := []) hF hr hgd hb (passAt hW σ) I .nil (spD_of g .nil h))
/-- a call of a def that stands in a slot or a list -/
def eCallV (Fs : Str → Option Fn) (fv : E) (r : EL) : E := fun ev c => (fv ev c).bind fun f c => match f with
  | .fn x => (match Fs x with
    | some F => (r ev c).bind fun ds c => F ds c
    | none => .bad)
  | _ => .bad
theorem DE.callV {Fs : Str → Option Fn} {fe : Expr} {fv : E} (C : ∀ x F, Fs x = some F → CallOk X x F) (hf : DE X xo fe fv) (ha : DA X xo (e :: es) fr)
    (hc : eval (.Call fe (e :: es) [] pos) X.env = (do callWith pos (← eval fe X.env) [] (backTo pos (starEach (e :: es) X.env)) (backToKw pos (keywordEach [] X.env))) := by rfl)
    (he : starEach (e :: es) X.env = (false, eval e X.env) :: starEach es X.env := by rfl) (hpl : (backTo pos (starEach es X.env)).any (·.1) = false := by rfl) : DE X xo (.Call fe (e :: es) [] pos) (eCallV Fs fv fr) := fun W hW => by
  refine ⟨fun pins s σ H Q I h => ?_⟩
  obtain ⟨G, ev, c, g, hx, h⟩ := h
  refine PyProof.Rows.Call_ (thn ((hf W hW).run pins s σ H (fun v H1 => ∃ (F : Fn) (x : Str) (f : Addr) (c1 : Int), v = .ref f ∧ X.mg x = some (.ref f) ∧ Fs x = some F ∧ Sm G.L H H1 ∧ CellOk H1 G.L c1 ∧
    Post X.md G σ H1 ev W (rD X.md (G.O σ ev) G.L) Q ((fr ev c1).bind fun ds c => F ds c)) I ?_) fun fu s0 ⟨fv', H1, I1, r1, F, x, f, c1, ev', hm, eF, s1, k1, h1⟩ => ?_) hc
  · refine tG.mk g hx (Post.bind h fun d c1 v H1 s1 k1 r1 h1 => ?_)
    cases r1 with
    | fn hm =>
      rename_i x f
      have h1' : Post X.md G σ H1 ev W (rD X.md (G.O σ ev) G.L) Q (match Fs x with | some F => (fr ev c1).bind fun ds c => F ds c | none => .bad) := h1
      cases eF : Fs x with
      | none => rw [eF] at h1'; exact h1'.elim
      | some F =>
        rw [eF] at h1'
        exact ⟨F, x, f, c1, rfl, hm, eF, s1, k1, h1'⟩
    | _ => exact False.elim h1
  · subst ev'
    cases r1
    obtain ⟨k, f', fd, ps, hF, hr, hgd, hm', hk, hb⟩ := C x F eF
    rw [hm] at hm'
    cases hm'
    refine PySem.W.callWith_K (h₀ := X.base) I.ok.mod.kin hk (thn ((ha W hW).run pos pins s0 σ H1 (fun vs H2 => spD X.md F vs H2 Q (fun cls d H' => W cls d σ H')) I1 ?_) fun us s1' ⟨vs, H2, I2, r, q⟩ => ⟨I2.kIn, ?_⟩) he hpl
    · exact tG.mk (g.sm s1 k1) hx (Post.bind h1 fun ds c2 vs H2 s2 k2 r2 h2 => spD_of ((g.sm s1 k1).sm s2 k2) r2 h2)
    · exact run_fnG hF hr hgd hb (passAt hW σ) I2 r q
end

/-! ### built-ins -/
def tyOf : D → Option String
  | .non => some "NoneType"
  | .bl _ => some "bool"
  | .int _ => some "int"
  | .str _ => some "str"
  | .tup _ => some "tuple"
  | .lst _ => some "list"
  | _ => none
def dLen : List D → Option D
  | [.str x] => if x.length ≤ sizeLine then some (.int x.length) else none
  | [.lst xs] => some (.int xs.length)
  | [.tup xs] => some (.int xs.length)
  | [.scr xs] => some (.int xs.length)
  | [.dk xs] => some (.int xs.length)
  | _ => none
def dAbs : List D → Option D
  | [.int i] => some (.int (if i < 0 then -i else i))
  | _ => none
def dInt : List D → Option D
  | [.int i] => some (.int i)
  | [.bl k] => some (.int (if k then 1 else 0))
  | _ => none
def dMax2 : List D → Option D
  | [.int i, .int j] => some (.int (if j > i then j else i))
  | _ => none
def dMin2 : List D → Option D
  | [.int i, .int j] => some (.int (if j < i then j else i))
  | _ => none
def dTuple : List D → Option D
  | [.lst xs] => some (.tup xs)
  | [.tup xs] => some (.tup xs)
  | _ => none
def dList : List D → Option D
  | [.lst xs] => some (.lst xs)
  | [.tup xs] => some (.lst xs)
  | _ => none
def dIsi : List D → Option D
  | [d, .ty n] => (tyOf d).bind fun t => (kitB t n).map .bl
  | _ => none
def dStr : List D → Option D
  | [.int i] => if i.natAbs.log2 < 1920 then some (.str (toString i)) else none
  | _ => none
def flatT : D → Option Bool
  | .non => some false
  | .bl b => some b
  | .int i => some (i != 0)
  | _ => none
def dAny : List D → Option D
  | [.lst xs] => if xs.all (fun d => (flatT d).isSome) then some (.bl (xs.any fun d => (flatT d).getD false)) else none
  | _ => none
def dAll : List D → Option D
  | [.lst xs] => if xs.all (fun d => (flatT d).isSome) then some (.bl (xs.all fun d => (flatT d).getD false)) else none
  | _ => none
def asInts : List D → Option (List Int)
  | [] => some []
  | .int i :: r => (asInts r).map (i :: ·)
  | _ => none
def dSum : List D → Option D
  | [.lst xs] => (asInts xs).map fun ns => .int ns.sum
  | _ => none
def showOk (d : D) : Bool := d.toP.showable && (d.toP.leavesShort 600 && decide (d.toP.bulk ≤ 20000))
def dRepr : List D → Option D
  | [d] => if d.fit 12 && showOk d then some (.str d.toP.shown) else none
  | _ => none
section
variable {X : Cx} {M : Md} {H : Hp} {O : Addr → Prop} {L : Option Addr}
theorem RepA.upd {vs : List V} {ds : List D} {p : Addr} {o : HO} (np : H p = none) (r : RepA M H O L vs ds) : RepA M (upd H p o) O L vs ds := r.fz (fun a o e n => ⟨same_updN np a o e, n⟩) fun _ z => z
theorem cd_len : CallD X (.builtin "len") dLen := by
  intro pins s σ H xs us Q I r ⟨O, L, ds, d, hO, hr, e, q⟩
  unfold dLen at e
  split at e
  · obtain ⟨v, rfl, h1⟩ := repA1 hr
    obtain rfl := h1.str_eq
    split at e <;> cases e
    rename_i hz
    exact call_len pins s σ H _ us Q I r ⟨_, _, rfl, ⟨hz, rfl⟩, q _ _ (Same.refl _) (.int _)⟩
  · obtain ⟨v, rfl, h1⟩ := repA1 hr
    obtain ⟨a, vs, rfl, h2, h3⟩ := h1.lst_eq
    cases e
    exact call_len pins s σ H _ us Q I r ⟨_, _, rfl, .inl ⟨_, .of h2, rfl⟩, by rw [RepA.length h3]; exact q _ _ (Same.refl _) (.int _)⟩
  · obtain ⟨v, rfl, h1⟩ := repA1 hr
    obtain ⟨a, vs, rfl, h2, h3⟩ := h1.tup_eq
    cases e
    exact call_len pins s σ H _ us Q I r ⟨_, _, rfl, .inr ⟨_, h2, rfl⟩, by rw [RepA.length h3]; exact q _ _ (Same.refl _) (.int _)⟩
  · obtain ⟨v, rfl, h1⟩ := repA1 hr
    obtain ⟨a, rfl, h2⟩ := h1.scr_eq
    cases e
    exact call_len pins s σ H _ us Q I r ⟨_, _, rfl, .inl ⟨_, h2, rfl⟩, by rw [List.length_map]; exact q _ _ (Same.refl _) (.int _)⟩
  · obtain ⟨v, rfl, h1⟩ := repA1 hr
    obtain ⟨a, kvs, rfl, h2, h3, h4⟩ := h1.dk_eq
    cases e
    obtain ⟨u, rfl, ru⟩ := vals1 r
    cases ru
    have hl := congrArg List.length h3
    rw [List.length_map, List.length_map] at hl
    exact d_len I (.inl h2) fun t s' I' => ⟨.int kvs.length, H, I', ⟨t, rfl⟩, by rw [hl]; exact q _ _ (Same.refl _) (.int _)⟩
  · cases e
theorem cd_abs : CallD X (.builtin "abs") dAbs := by
  intro pins s σ H xs us Q I r ⟨O, L, ds, d, hO, hr, e, q⟩
  unfold dAbs at e
  split at e
  · obtain ⟨v, rfl, h1⟩ := repA1 hr
    obtain rfl := h1.int_eq
    cases e
    exact call_abs pins s σ H _ us Q I r ⟨_, rfl, q _ _ (Same.refl _) (.int _)⟩
  · cases e
theorem cd_int : CallD X (.type "int") dInt := by
  intro pins s σ H xs us Q I r ⟨O, L, ds, d, hO, hr, e, q⟩
  unfold dInt at e
  split at e
  · obtain ⟨v, rfl, h1⟩ := repA1 hr
    obtain rfl := h1.int_eq
    cases e
    exact call_int1 pins s σ H _ us Q I r (.inl ⟨_, rfl, q _ _ (Same.refl _) (.int _)⟩)
  · obtain ⟨v, rfl, h1⟩ := repA1 hr
    obtain rfl := h1.bl_eq
    cases e
    exact call_int1 pins s σ H _ us Q I r (.inr ⟨_, rfl, q _ _ (Same.refl _) (.int _)⟩)
  · cases e
theorem cd_max2 (hc : X.calm = true) : CallD X (.builtin "max") dMax2 := by
  intro pins s σ H xs us Q I r ⟨O, L, ds, d, hO, hr, e, q⟩
  unfold dMax2 at e
  split at e
  · obtain ⟨v, v2, rfl, h1, h2⟩ := repA2 hr
    obtain rfl := h1.int_eq
    obtain rfl := h2.int_eq
    cases e
    exact call_max2 hc pins s σ H _ us Q I r ⟨_, _, rfl, q _ _ (Same.refl _) (.int _)⟩
  · cases e
theorem cd_min2 (hc : X.calm = true) : CallD X (.builtin "min") dMin2 := by
  intro pins s σ H xs us Q I r ⟨O, L, ds, d, hO, hr, e, q⟩
  unfold dMin2 at e
  split at e
  · obtain ⟨v, v2, rfl, h1, h2⟩ := repA2 hr
    obtain rfl := h1.int_eq
    obtain rfl := h2.int_eq
    cases e
    exact call_min2 hc pins s σ H _ us Q I r ⟨_, _, rfl, q _ _ (Same.refl _) (.int _)⟩
  · cases e
theorem cd_tuple : CallD X (.type "tuple") dTuple := by
  intro pins s σ H xs us Q I r ⟨O, L, ds, d, hO, hr, e, q⟩
  unfold dTuple at e
  split at e
  · obtain ⟨v, rfl, h1⟩ := repA1 hr
    obtain ⟨a, vs, rfl, h2, h3⟩ := h1.lst_eq
    cases e
    exact call_tuple_of pins s σ H _ us Q I r ⟨_, _, rfl, .inl ⟨.of h2, fun p np => q _ _ (same_updN np) (.tup upd_same (fun z => hO _ z np) (h3.upd np))⟩⟩
  · obtain ⟨v, rfl, h1⟩ := repA1 hr
    obtain ⟨a, vs, rfl, h2, h3⟩ := h1.tup_eq
    cases e
    exact call_tuple_of pins s σ H _ us Q I r ⟨_, _, rfl, .inr ⟨h2, q _ _ (Same.refl _) (h1.rep rfl)⟩⟩
  · cases e
theorem cd_list : CallD X (.type "list") dList := by
  intro pins s σ H xs us Q I r ⟨O, L, ds, d, hO, hr, e, q⟩
  unfold dList at e
  split at e
  · obtain ⟨v, rfl, h1⟩ := repA1 hr
    obtain ⟨a, vs, rfl, h2, h3⟩ := h1.lst_eq
    cases e
    exact call_list_of pins s σ H _ us Q I r ⟨_, _, rfl, .inl (.of h2), fun p np => q _ _ (same_updN np) (.lst upd_same (fun z => hO _ z np) (h3.upd np))⟩
  · obtain ⟨v, rfl, h1⟩ := repA1 hr
    obtain ⟨a, vs, rfl, h2, h3⟩ := h1.tup_eq
    cases e
    exact call_list_of pins s σ H _ us Q I r ⟨_, _, rfl, .inr h2, fun p np => q _ _ (same_updN np) (.lst upd_same (fun z => hO _ z np) (h3.upd np))⟩
  · cases e
theorem RepB.tyX {v : V} {d : D} {t : String} (h : RepB M H O L v d) (e : tyOf d = some t) : TyX M.K H v (.type t) := by
  rcases h with h | ⟨a, ho, rfl, _, h1, r⟩
  case inr => cases r <;> cases e; exact .base (.lst h1)
  cases h with
  | non => cases e; exact .base .non
  | bl b => cases e; exact .base (.bl b)
  | int b => cases e; exact .base (.int b)
  | str b => cases e; exact .base (.str b)
  | tup h1 _ _ => cases e; exact .base (.tup h1)
  | tupK h1 _ => cases e; obtain ⟨o, its, n, k1, k2, _⟩ := h1; exact .kTuple k1 k2
  | lst h1 _ _ => cases e; exact .base (.lst h1)
  | _ => cases e
theorem cd_isi : CallD X (.builtin "isinstance") dIsi := by
  intro pins s σ H xs us Q I r ⟨O, L, ds, d, hO, hr, e, q⟩
  unfold dIsi at e
  split at e
  · rename_i d1 n
    obtain ⟨v, v2, rfl, h1, h2⟩ := repA2 hr
    cases h2.rep rfl
    cases et : tyOf d1 with
    | none => rw [et] at e; cases e
    | some t =>
      rw [et] at e
      cases ek : kitB t n with
      | none =>
        have e' : (kitB t n).map D.bl = some d := e
        rw [ek] at e'; cases e'
      | some b =>
        have e' : (kitB t n).map D.bl = some d := e
        rw [ek] at e'; cases e'
        exact call_isi pins s σ H _ us Q I r ⟨_, _, _, _, _, rfl, .ty n, h1.tyX et, kit_ty ek, q _ _ (Same.refl _) (.bl _)⟩
  · cases e
theorem cd_str : CallD X (.type "str") dStr := by
  intro pins s σ H xs us Q I r ⟨O, L, ds, d, hO, hr, e, q⟩
  unfold dStr at e
  split at e
  · obtain ⟨v, rfl, h1⟩ := repA1 hr
    obtain rfl := h1.int_eq
    split at e <;> cases e
    exact call_str_int pins s σ H _ us Q I r ⟨_, rfl, by assumption, q _ _ (Same.refl _) (.str _)⟩
  · cases e
theorem flat_truth {prog : Program} {w : World} {A : Around} {vs : List V} {ds : List D} {its : List Value} (rv : Vals vs its) (r : RepA M H O L vs ds) (hf : (ds.all fun d => (flatT d).isSome) = true) :
    PySem.TruthOf prog w A (fun i v => its.toArray[i]? = some v) (fun i => (ds[i]?.bind flatT).getD false) := fun i v s Q E hv hq => by
  have hv' : its[i]? = some v := by simpa using hv
  have hl1 := rv.length
  have hl2 := RepA.length r
  have hi : i < its.length := (List.getElem?_eq_some_iff.mp hv').1
  have hd : ds[i]? = some ds[i] := List.getElem?_eq_getElem (by omega)
  obtain ⟨x, hx, rx⟩ := RepA.get r hd
  obtain ⟨u, hu, ru⟩ := rv.get hx
  rw [hv'] at hu
  cases hu
  have hs := List.all_eq_true.mp hf ds[i] (List.getElem_mem _)
  have hq' : Q ((ds[i]?.bind flatT).getD false) s := hq
  rw [hd] at hq'
  generalize ds[i] = d at hs hq' rx
  cases rx with
  | non => cases ru; exact PyProof.Rows.truthy_none hq'
  | bl b => cases ru; exact wpAny_truthy_bool hq'
  | int b => obtain ⟨t, rfl⟩ := ru; exact PySem.P.truthy_int hq'
  | _ => cases hs
theorem any_at {α : Type} (f : α → Bool) : ∀ ds : List α, ((List.range ds.length).any fun i => (ds[i]?.map f).getD false) = ds.any f
  | [] => rfl
  | b :: bs => by
    rw [List.length_cons, List.range_succ_eq_map, List.any_cons, List.any_map, List.any_cons, ← any_at f bs]
    rfl
theorem all_at {α : Type} (f : α → Bool) : ∀ ds : List α, ((List.range ds.length).all fun i => (ds[i]?.map f).getD false) = ds.all f
  | [] => rfl
  | b :: bs => by
    rw [List.length_cons, List.range_succ_eq_map, List.all_cons, List.all_map, List.all_cons, ← all_at f bs]
    rfl
theorem flat_fun (ds : List D) : (fun i : Nat => (ds[i]?.bind flatT).getD false) = fun i => (ds[i]?.map fun d => (flatT d).getD false).getD false := by
  funext i
  cases ds[i]? <;> rfl
theorem cd_any (hc : X.calm = true) : CallD X (.builtin "any") dAny := by
  intro pins s σ H xs us Q I r ⟨O, L, ds, d, hO, hr, e, q⟩
  unfold dAny at e
  split at e
  · rename_i xs
    obtain ⟨v, rfl, h1⟩ := repA1 hr
    obtain ⟨a, vs, rfl, h2, h3⟩ := h1.lst_eq
    split at e <;> cases e
    rename_i hf
    obtain ⟨its, rv, hl, _⟩ := I.list (.of h2)
    rw [Vals.ref1 r]
    refine call_any_walk (iter_any hl.isList fun s₂ e2 st hne => ?_)
    subst e2
    refine ⟨_, _, _, _, _, _, _, rfl, Walks.list (A := X.A.in1) (I.ok.hd hc) _ a hne its.toArray, st, flat_truth rv h3 hf, fun h' tk hk => ?_⟩
    refine ⟨.bl _, H, I.kept fun b o eo => hk b o (fun hmem => ?_) (Heap.get?_push_of_some _ eo), ?_, q _ _ (Same.refl _) (.bl _)⟩
    · rcases List.mem_cons.mp hmem with e1 | hmem
      · exact absurd (e1 ▸ Heap.lt_size eo) (Nat.lt_irrefl _)
      · cases hmem
    · show Value.bool _ = Value.bool _
      rw [flat_fun, List.size_toArray, ← rv.length, RepA.length h3, any_at]
  · cases e
theorem cd_all (hc : X.calm = true) : CallD X (.builtin "all") dAll := by
  intro pins s σ H xs us Q I r ⟨O, L, ds, d, hO, hr, e, q⟩
  unfold dAll at e
  split at e
  · rename_i xs
    obtain ⟨v, rfl, h1⟩ := repA1 hr
    obtain ⟨a, vs, rfl, h2, h3⟩ := h1.lst_eq
    split at e <;> cases e
    rename_i hf
    obtain ⟨its, rv, hl, _⟩ := I.list (.of h2)
    rw [Vals.ref1 r]
    refine call_all_walk (iter_any hl.isList fun s₂ e2 st hne => ?_)
    subst e2
    refine ⟨_, _, _, _, _, _, _, rfl, Walks.list (A := X.A.in1) (I.ok.hd hc) _ a hne its.toArray, st, flat_truth rv h3 hf, fun h' tk hk => ?_⟩
    refine ⟨.bl _, H, I.kept fun b o eo => hk b o (fun hmem => ?_) (Heap.get?_push_of_some _ eo), ?_, q _ _ (Same.refl _) (.bl _)⟩
    · rcases List.mem_cons.mp hmem with e1 | hmem
      · exact absurd (e1 ▸ Heap.lt_size eo) (Nat.lt_irrefl _)
      · cases hmem
    · show Value.bool _ = Value.bool _
      rw [flat_fun, List.size_toArray, ← rv.length, RepA.length h3, all_at]
  · cases e
theorem asInts_rep {ds : List D} : ∀ {vs : List V} {ns : List Int}, RepA M H O L vs ds → asInts ds = some ns → vs = ns.map V.int := by
  induction ds with
  | nil => intro vs ns r e; cases r; cases e; rfl
  | cons d ds ih =>
    intro vs ns r e
    cases r with
    | cons h r =>
      cases d with
      | int i =>
        obtain rfl := h.int_eq
        have e' : (asInts ds).map (i :: ·) = some ns := e
        cases q : asInts ds with
        | none => rw [q] at e'; cases e'
        | some ms => rw [q] at e'; cases e'; rw [ih r q]; rfl
      | _ => cases e
theorem cd_sum (hc : X.calm = true) : CallD X (.builtin "sum") dSum := by
  intro pins s σ H xs us Q I r ⟨O, L, ds, d, hO, hr, e, q⟩
  unfold dSum at e
  split at e
  · rename_i xs
    obtain ⟨v, rfl, h1⟩ := repA1 hr
    obtain ⟨a, vs, rfl, h2, h3⟩ := h1.lst_eq
    cases z : asInts xs with
    | none => rw [z] at e; cases e
    | some ns =>
      rw [z] at e; cases e
      have := asInts_rep h3 z
      subst this
      exact cr_sum hc pins s σ H _ us Q I r ⟨_, _, rfl, .of h2, q _ _ (Same.refl _) (.int _)⟩
  · cases e
theorem shown_fits {d : D} (h : showOk d = true) : d.toP.shown.length ≤ sizeLine := by
  unfold showOk at h
  simp only [Bool.and_eq_true, decide_eq_true_eq] at h
  have := PyData.shown_le_bulk 600 (by decide) d.toP h.2.1
  have hs : sizeLine = 16777216 := sizeLine_eq
  omega
theorem cd_repr (hg : X.A.guards = some []) (hu : X.A.units + 64 < cLine) : CallD X (.builtin "repr") dRepr := by
  intro pins s σ H xs us Q I r ⟨O, L, ds, d, hO, hr, e, q⟩
  unfold dRepr at e
  split at e
  · rename_i d1
    obtain ⟨v, rfl, h1⟩ := repA1 hr
    split at e <;> cases e
    rename_i z
    obtain ⟨z1, z2⟩ := Bool.and_eq_true_iff.mp z
    have hz := shown_fits z2
    have z3 : d1.toP.showable = true := by
      unfold showOk at z2
      simp only [Bool.and_eq_true] at z2
      exact z2.1
    obtain ⟨u, rfl, ru⟩ := vals1 r
    obtain ⟨c1, c2⟩ := D.fit_canLay 12 d1 z1
    obtain ⟨as, rd⟩ := Dp.reads I d1.toP v u (RepB.dp 12 h1 z1) ru
    have fin : ∀ tk, EP X pins σ Q (.str d1.toP.shown s.toks) { s with toks := tk } := fun tk => ⟨.str _, H, I.tok _, ⟨_, rfl⟩, q _ _ (Same.refl _) (.str _)⟩
    have cont : ∀ a, u = .ref a → wpAny (model X.prog X.w) X.A (call (.builtin "repr") [u]) (EP X pins σ Q) X.xe s := fun a ea => by
      subst ea
      exact repr_of_reads' rd z3 (PyData.noDict_hsm (PyData.hasDict_of_canLay _ c1)) hg (by omega) (fun _ _ k => k) (fun h' u' tk hk => ⟨.str _, H, I.kept hk, ⟨_, rfl⟩, q _ _ (Same.refl _) (.str _)⟩) hz
    rcases h1 with h1 | ⟨a, ho, rfl, _⟩
    case inr => exact cont _ ru
    cases h1 with
    | non => cases ru; exact PySem.P.repr_of_none (fin _)
    | bl b => cases ru; exact PySem.P.repr_of_bool (fin _)
    | int i => obtain ⟨t, rfl⟩ := ru; exact PySem.P.repr_of_int (of_decide_eq_true z3) (fin _)
    | str x => obtain ⟨t, rfl⟩ := ru; exact PySem.P.repr_of_str (fin _) hz
    | tup _ _ _ => exact cont _ ru
    | tupK _ _ => exact cont _ ru
    | lst _ _ _ => exact cont _ ru
    | _ => cases z1
  · cases e
end
end DW

set_option Elab.async false
set_option linter.all false
set_option maxRecDepth 100000
set_option maxHeartbeats 4000000
/-! DW5: statements. -/
namespace DW
open PySem PySem.Spec L2

inductive SR where
  | nx (ev : Env) (c : Int) | ret (d : D) (c : Int) | brk (ev : Env) (c : Int) | cnt (ev : Env) (c : Int) | exc (x : XD) (ev : Env) (c : Int) | bad
abbrev SF := Env → Int → SR
def R.toS {α : Type} (r : R α) (ev : Env) (k : α → Int → SR) : SR := match r with
  | .ok a c => k a c
  | .exc x c => .exc x ev c
  | .bad => .bad
/-- what is wanted behind a statement; loose (lo): of a returned value its bool alone -/
def PostS (M : Md) (lo : Bool) (G : Gd) (σ : L2.St) (H : Hp) (ev : Env) (W : WX) (D' : Ends) : SR → Prop
  | .nx ev' c' => ∀ σ' H', Gk M G σ' H' ev' c' → Fz (G.O σ ev) H (G.O σ' ev') H' → D'.nx σ' H'
  | .brk ev' c' => ∀ σ' H', Gk M G σ' H' ev' c' → Fz (G.O σ ev) H (G.O σ' ev') H' → D'.bk σ' H'
  | .cnt ev' c' => ∀ σ' H', Gk M G σ' H' ev' c' → Fz (G.O σ ev) H (G.O σ' ev') H' → D'.ct σ' H'
  | .ret d c' => if lo = true then ∃ b, d = .bl b ∧ ∀ H', D'.rt (.bl b) H' else ∀ v H', Sm G.L G.H0 H' → CellOk H' G.L c' → Rep M H' (fun a => G.Fo a ∨ G.L = some a) G.L v d → D'.rt v H'
  | .exc x ev' c' => ∀ cls d σ' H', Gk M G σ' H' ev' c' → Fz (G.O σ ev) H (G.O σ' ev') H' → XRep M H' (G.O σ' ev') G.L cls d x → W cls d σ' H'
  | .bad => False
def tS (M : Md) (xo : Xo) (lo : Bool) (f : SF) (W : WX) : TS := fun D' σ H => ∃ G ev c, Gk M G σ H ev c ∧ G.xo = xo ∧ PostS M lo G σ H ev W D' (f ev c)
def DS (X : Cx) (xo : Xo) (lo : Bool) (st : Stmt) (f : SF) : Prop := ∀ W, Takes X W → PS X st (tS X.md xo lo f W)
def DSs (X : Cx) (xo : Xo) (lo : Bool) (st : List Stmt) (f : SF) : Prop := ∀ W, Takes X W → PSs X st (tS X.md xo lo f W)
theorem PSimp {X : Cx} {st : Stmt} {t t' : TS} (h : PS X st t) (i : ∀ D' σ H, t' D' σ H → t D' σ H) : PS X st t' := ⟨fun pins s σ H D' I q => h.run pins s σ H D' I (i _ _ _ q)⟩
theorem PSsimp {X : Cx} {st : List Stmt} {t t' : TS} (h : PSs X st t) (i : ∀ D' σ H, t' D' σ H → t D' σ H) : PSs X st t' := ⟨fun pins s σ H D' I q => h.run pins s σ H D' I (i _ _ _ q)⟩
section
variable {M : Md} {lo : Bool} {G : Gd} {σ σ' : L2.St} {H H' : Hp} {ev ev' : Env} {c c' : Int} {W : WX} {D' : Ends}
theorem PostS.from {r : SR} (h : PostS M lo G σ H ev W D' r) (F : Fz (G.O σ ev) H (G.O σ' ev') H') : PostS M lo G σ' H' ev' W D' r := by
  cases r with
  | nx e c => exact fun σ2 H2 g z => h σ2 H2 g (F.trans z)
  | brk e c => exact fun σ2 H2 g z => h σ2 H2 g (F.trans z)
  | cnt e c => exact fun σ2 H2 g z => h σ2 H2 g (F.trans z)
  | exc x e c => exact fun cl d σ2 H2 g z => h cl d σ2 H2 g (F.trans z)
  | ret d c => exact h
  | bad => exact h
/-- an expression, then the rest -/
theorem PostS.bind {α β : Type} {rel : Hp → β → α → Prop} {Q1 : β → Hp → Prop} {r : R α} {k : α → Int → SR} (g : Gk M G σ H ev c) (h : PostS M lo G σ H ev W D' (r.toS ev k))
    (hq : ∀ d c1 v H1, Sm G.L H H1 → CellOk H1 G.L c1 → Gk M G σ H1 ev c1 → rel H1 v d → PostS M lo G σ H1 ev W D' (k d c1) → Q1 v H1) : Post M G σ H ev W rel Q1 r := by
  cases r with
  | ok a c1 => exact fun v H1 s k1 q => hq a c1 v H1 s k1 (g.sm s k1) q (PostS.from h (Gd.fzSm s))
  | exc x c1 => exact fun cls dd H1 s k1 q => h cls dd σ H1 (g.sm s k1) (Gd.fzSm s) q
  | bad => exact h
theorem tS.mk {xo : Xo} {f : SF} (g : Gk M G σ H ev c) (hx : G.xo = xo) (h : PostS M lo G σ H ev W D' (f ev c)) : tS M xo lo f W D' σ H := ⟨G, ev, c, g, hx, h⟩
/-! ### slots -/
theorem look {i j : Nat} {z w : S} (e : (ev.set i z)[j]? = some w) : (j = i ∧ i < ev.length ∧ w = z) ∨ (j ≠ i ∧ ev[j]? = some w) := by
  by_cases hj : i = j
  · subst hj
    by_cases hl : i < ev.length
    · rw [List.getElem?_set_self hl] at e
      cases e
      exact .inl ⟨rfl, hl, rfl⟩
    · rw [List.getElem?_eq_none (by simpa using hl)] at e
      cases e
  · rw [List.getElem?_set_ne hj] at e
    exact .inr ⟨fun q => hj q.symm, e⟩
theorem Gk.setG (g : Gk M G σ H ev c) {i : Nat} {z : S} (hz : ∀ xs, z ≠ .own xs) {v : Option V}
    (hv : ∀ d, z = .val d → ∃ x, v = some x ∧ Rep M H (G.O σ ev) G.L x d) (hx : ∀ x, z = .ex x → ∃ a cls d, G.xo = some (a, cls, d) ∧ v = some (.ref a) ∧ XRep M H (G.O σ ev) G.L cls d x) :
    Gk M G (σ.set i v) H (ev.set i z) c ∧ Fz (G.O σ ev) H (G.O (σ.set i v) (ev.set i z)) H := by
  have keep : ∀ {j : Nat}, j ≠ i → (σ.set i v)[j]? = σ[j]? := fun h => List.getElem?_set_ne (Ne.symm h)
  have own : ∀ {j : Nat} {d : D}, (ev.set i z)[j]? = some (.own d) → j ≠ i ∧ ev[j]? = some (.own d) := fun {j d} e => by
    rcases look e with ⟨rfl, hl, q⟩ | q
    · exact absurd q.symm (hz d)
    · exact q
  refine g.deal (T := G.Tm) (by rw [List.length_set, List.length_set]; exact g.len) (fun j d e => ?_) (fun j d e => ?_) (fun j k xs ys a e1 e2 e3 e4 => ?_) (fun p hp => hp) g.tmd (fun a ha => ?_) (fun j x e => ?_)
  · rcases look e with ⟨rfl, hl, q⟩ | ⟨hj, q⟩
    · obtain ⟨x, rfl, r⟩ := hv d q.symm
      exact ⟨x, by rw [List.getElem?_set_self (by rw [← g.len]; exact hl)], r⟩
    · rw [keep hj]; exact g.val j d q
  · obtain ⟨hj, q⟩ := own e
    rw [keep hj]
    obtain ⟨a, h1, _⟩ := g.own j d q
    exact ⟨a, h1, .inl ⟨j, q, h1⟩⟩
  · obtain ⟨hj, q1⟩ := own e1
    obtain ⟨hk, q2⟩ := own e2
    rw [keep hj] at e3
    rw [keep hk] at e4
    exact g.dist j k xs ys a q1 q2 e3 e4
  · rintro ⟨j, d, e1, e2⟩
    obtain ⟨hj, q1⟩ := own e1
    rw [keep hj] at e2
    exact g.tmo a ha ⟨j, d, q1, e2⟩
  · rcases look e with ⟨rfl, hl, q⟩ | ⟨hj, q⟩
    · obtain ⟨a, cls, d, h1, h2, r⟩ := hx x q.symm
      subst h2
      exact ⟨a, cls, d, h1, by rw [List.getElem?_set_self (by rw [← g.len]; exact hl)], r⟩
    · rw [keep hj]; exact g.ex j x q
theorem Gk.setVal (g : Gk M G σ H ev c) {i : Nat} {v : V} {d : D} (r : Rep M H (G.O σ ev) G.L v d) : Gk M G (σ.set i (some v)) H (ev.set i (.val d)) c ∧ Fz (G.O σ ev) H (G.O (σ.set i (some v)) (ev.set i (.val d))) H :=
  g.setG (fun _ z => by cases z) (fun d' e => by cases e; exact ⟨v, rfl, r⟩) fun _ e => by cases e
theorem Gk.setNo (g : Gk M G σ H ev c) {i : Nat} {v : Option V} : Gk M G (σ.set i v) H (ev.set i .no) c ∧ Fz (G.O σ ev) H (G.O (σ.set i v) (ev.set i .no)) H :=
  g.setG (fun _ z => by cases z) (fun d' e => by cases e) fun _ e => by cases e
/-- a new object, on its way to a slot -/
theorem Gk.push (g : Gk M G σ H ev c) (s : Sm G.L H H') (k : CellOk H' G.L c') {a : Addr} {ho : HO} {d : D} (hn : H a = none) (ha : H' a = some ho) (r : RepH M H' (fun b => G.O σ ev b ∨ b = a) G.L ho d) :
    Gk M (G.tm ((a, d) :: G.Tm)) σ H' ev c' ∧ Fz (G.O σ ev) H ((G.tm ((a, d) :: G.Tm)).O σ ev) H' := by
  have hO : ∀ b, (G.tm ((a, d) :: G.Tm)).O σ ev b ↔ (G.O σ ev b ∨ b = a) := fun b => by
    constructor
    · rintro (h | h | h | h)
      · exact .inl (.inl h)
      · exact .inl (.inr (.inl h))
      · exact .inl (.inr (.inr (.inl h)))
      · rcases List.mem_cons.mp h with e | h
        · exact .inr e
        · exact .inl (.inr (.inr (.inr h)))
    · rintro ((h | h | h | h) | h)
      · exact .inl h
      · exact .inr (.inl h)
      · exact .inr (.inr (.inl h))
      · exact .inr (.inr (.inr (List.mem_cons_of_mem _ h)))
      · rw [h]; exact .inr (.inr (.inr List.mem_cons_self))
  have F : Fz (G.O σ ev) H ((G.tm ((a, d) :: G.Tm)).O σ ev) H' := fun b o e n => by
    refine ⟨s b o e fun z => n (.inr (.inl z)), fun z => ?_⟩
    rcases (hO b).mp z with z | z
    · exact n z
    · rw [z, hn] at e; cases e
  have F2 : Fz (fun b => G.O σ ev b ∨ b = a) H' ((G.tm ((a, d) :: G.Tm)).O σ ev) H' := fz_sub fun b => (hO b).mp
  have ow : ∀ {b : Addr} {d' : D}, Ow M G σ H ev b d' → Ow M (G.tm ((a, d) :: G.Tm)) σ H' ev b d' := fun {b d'} ⟨h1, ho, h2, r⟩ => ⟨h1, ho, s b _ h2 (fun z => g.lo b z h1), r.fz F fun _ z => z⟩
  refine ⟨⟨g.len, g.keep.trans s, k, g.fo, g.lo, fun i d e => let ⟨v, h1, r⟩ := g.val i d e; ⟨v, h1, r.fz F fun _ z => z⟩, fun i d e => let ⟨b, h1, h2⟩ := g.own i d e; ⟨b, h1, ow h2⟩, g.dist, fun p hp => ?_, ?_, fun b hb => ?_,
    fun i x e => let ⟨b, cls, d, h1, h2, r⟩ := g.ex i x e; ⟨b, cls, d, h1, h2, r.fz F fun _ z => z⟩⟩, F⟩
  · rcases List.mem_cons.mp hp with e | hp
    · subst e
      exact ⟨g.h0 hn, ho, ha, r.fz F2 fun _ z => z⟩
    · exact ow (g.tm p hp)
  · refine List.nodup_cons.mpr ⟨fun hm => ?_, g.tmd⟩
    obtain ⟨d', q⟩ := g.tmA hm
    exact q.ne hn
  · rcases List.mem_cons.mp hb with e | hb
    · intro z
      obtain ⟨d', q⟩ := g.owA z
      rw [e] at q
      exact q.ne hn
    · exact g.tmo b hb
/-- .. comes into the slot -/
theorem Gk.take {T : List (Addr × D)} {a : Addr} {d : D} (g : Gk M (G.tm ((a, d) :: T)) σ H ev c) {i : Nat} (hl : i < ev.length) :
    Gk M (G.tm T) (σ.set i (some (.ref a))) H (ev.set i (.own d)) c ∧ Fz ((G.tm ((a, d) :: T)).O σ ev) H ((G.tm T).O (σ.set i (some (.ref a))) (ev.set i (.own d))) H := by
  have keep : ∀ {j : Nat}, j ≠ i → (σ.set i (some (.ref a)))[j]? = σ[j]? := fun h => List.getElem?_set_ne (Ne.symm h)
  have self : (σ.set i (some (V.ref a)))[i]? = some (some (.ref a)) := List.getElem?_set_self (by rw [← g.len]; exact hl)
  have noA : ¬ OwnA σ ev a := g.tmo a List.mem_cons_self
  have nd := List.nodup_cons.mp g.tmd
  refine g.deal (T := T) (by rw [List.length_set, List.length_set]; exact g.len) (fun j d' e => ?_) (fun j d' e => ?_) (fun j k xs ys b e1 e2 e3 e4 => ?_) (fun p hp => List.mem_cons_of_mem _ hp) nd.2 (fun b hb => ?_) (fun j x e => ?_)
  · rcases look e with ⟨rfl, hl, q⟩ | ⟨hj, q⟩
    · cases q
    · rw [keep hj]; exact g.val j d' q
  · rcases look e with ⟨rfl, hl, q⟩ | ⟨hj, q⟩
    · cases q
      exact ⟨a, self, .inr List.mem_cons_self⟩
    · rw [keep hj]
      obtain ⟨b, h1, _⟩ := g.own j d' q
      exact ⟨b, h1, .inl ⟨j, q, h1⟩⟩
  · rcases look e1 with ⟨rfl, _, q1⟩ | ⟨hj, q1⟩
    · rcases look e2 with ⟨rfl, _, q2⟩ | ⟨hk, q2⟩
      · rfl
      · rw [self] at e3
        cases e3
        rw [keep hk] at e4
        exact absurd ⟨k, ys, q2, e4⟩ noA
    · rcases look e2 with ⟨rfl, _, q2⟩ | ⟨hk, q2⟩
      · rw [self] at e4
        cases e4
        rw [keep hj] at e3
        exact absurd ⟨j, xs, q1, e3⟩ noA
      · rw [keep hj] at e3
        rw [keep hk] at e4
        exact g.dist j k xs ys b q1 q2 e3 e4
  · rintro ⟨j, d', e1, e2⟩
    rcases look e1 with ⟨rfl, _, q1⟩ | ⟨hj, q1⟩
    · rw [self] at e2
      cases e2
      exact nd.1 hb
    · rw [keep hj] at e2
      exact g.tmo b (List.mem_cons_of_mem _ hb) ⟨j, d', q1, e2⟩
  · rcases look e with ⟨rfl, hl, q⟩ | ⟨hj, q⟩
    · cases q
    · rw [keep hj]; exact g.ex j x q
/-- .. or is frozen -/
theorem Gk.drop {T : List (Addr × D)} {a : Addr} {d : D} (g : Gk M (G.tm ((a, d) :: T)) σ H ev c) :
    Gk M (G.tm T) σ H ev c ∧ Fz ((G.tm ((a, d) :: T)).O σ ev) H ((G.tm T).O σ ev) H ∧ Rep M H ((G.tm T).O σ ev) G.L (.ref a) d := by
  have nd := List.nodup_cons.mp g.tmd
  obtain ⟨g2, F⟩ := g.deal (T := T) g.len g.val (fun i d' e => let ⟨b, h1, _⟩ := g.own i d' e; ⟨b, h1, .inl ⟨i, e, h1⟩⟩) g.dist (fun p hp => List.mem_cons_of_mem _ hp) nd.2 (fun b hb => g.tmo b (List.mem_cons_of_mem _ hb)) g.ex
  obtain ⟨h0, ho, e, r⟩ := g.tm (a, d) List.mem_cons_self
  refine ⟨g2, F, (r.fz F fun _ z => z).rep e fun z => ?_⟩
  rcases z with z | z | z | z
  · exact g.fo a z h0
  · exact g.lo a z h0
  · exact g.tmo a List.mem_cons_self z
  · exact nd.1 z
/-- a new object becomes a slot's own -/
theorem Gk.setOwn (g : Gk M G σ H ev c) (s : Sm G.L H H') (k : CellOk H' G.L c') {i : Nat} {a : Addr} {ho : HO} {d : D} (hl : i < ev.length) (hn : H a = none) (ha : H' a = some ho) (r : RepH M H' (fun b => G.O σ ev b ∨ b = a) G.L ho d) :
    Gk M G (σ.set i (some (.ref a))) H' (ev.set i (.own d)) c' ∧ Fz (G.O σ ev) H (G.O (σ.set i (some (.ref a))) (ev.set i (.own d))) H' := by
  obtain ⟨g1, F1⟩ := g.push s k hn ha r
  obtain ⟨g2, F2⟩ := g1.take (T := G.Tm) hl
  exact ⟨g2, F1.trans F2⟩
/-- an own object changes -/
theorem Gk.updOwn (g : Gk M G σ H ev c) {i : Nat} {a : Addr} {d d2 : D} {ho : HO} (he : ev[i]? = some (.own d)) (hs : σ[i]? = some (some (.ref a))) (r : RepH M H (G.O σ ev) G.L ho d2) :
    Gk M G σ (upd H a ho) (ev.set i (.own d2)) c ∧ Fz (G.O σ ev) H (G.O σ (ev.set i (.own d2))) (upd H a ho) := by
  obtain ⟨a', q1, q2, _⟩ := g.own i d he
  rw [hs] at q1
  cases q1
  have hl : i < ev.length := (List.getElem?_eq_some_iff.mp he).1
  have this : ∀ b, OwnA σ (ev.set i (.own d2)) b ↔ OwnA σ ev b := fun b => by
    constructor
    · rintro ⟨j, zs, h1, h2⟩
      by_cases e : i = j
      · subst e; exact ⟨i, d, he, h2⟩
      · rw [List.getElem?_set_ne e] at h1; exact ⟨j, zs, h1, h2⟩
    · rintro ⟨j, zs, h1, h2⟩
      by_cases e : i = j
      · subst e; exact ⟨i, d2, List.getElem?_set_self hl, h2⟩
      · exact ⟨j, zs, by rw [List.getElem?_set_ne e]; exact h1, h2⟩
  have hO : ∀ b, G.O σ (ev.set i (.own d2)) b ↔ G.O σ ev b := fun b => by
    constructor
    · rintro (h | h | h | h)
      · exact .inl h
      · exact .inr (.inl h)
      · exact .inr (.inr (.inl ((this b).mp h)))
      · exact .inr (.inr (.inr h))
    · rintro (h | h | h | h)
      · exact .inl h
      · exact .inr (.inl h)
      · exact .inr (.inr (.inl ((this b).mpr h)))
      · exact .inr (.inr (.inr h))
  have oa : OwnA σ ev a := ⟨i, d, he, hs⟩
  have F : Fz (G.O σ ev) H (G.O σ (ev.set i (.own d2))) (upd H a ho) := fun b o e n => by
    have hb : b ≠ a := fun z => n (by rw [z]; exact .inr (.inr (.inl oa)))
    exact ⟨by rw [upd_ne hb]; exact e, fun z => n ((hO b).mp z)⟩
  have na : ∀ b, G.L = some b → b ≠ a := fun b z e => by rw [e] at z; exact g.lo a z q2
  refine ⟨⟨by rw [List.length_set]; exact g.len, fun b o e n => ?_, fun b e => ?_, g.fo, g.lo, fun j d' e => ?_, fun j zs e => ?_, fun j l zs us b e1 e2 e3 e4 => ?_, fun p hp => ?_, g.tmd, fun b hb z => g.tmo b hb ((this b).mp z), fun j x e => ?_⟩, F⟩
  · have hb : b ≠ a := fun z => by rw [z, q2] at e; cases e
    rw [upd_ne hb]; exact g.keep b o e n
  · rw [upd_ne (na b e)]; exact g.cell b e
  · rcases look e with ⟨rfl, _, q⟩ | ⟨hj, q⟩
    · cases q
    · obtain ⟨x, h1, r⟩ := g.val j d' q
      exact ⟨x, h1, r.fz F fun _ z => z⟩
  · rcases look e with ⟨rfl, _, q⟩ | ⟨hj, q⟩
    · cases q
      exact ⟨a, hs, q2, ho, upd_same, r.fz F fun _ z => z⟩
    · obtain ⟨b, h1, h2, hb, h3, r⟩ := g.own j zs q
      have hb : b ≠ a := fun z => by
        subst z
        exact hj (g.dist j i zs d b q he h1 hs)
      exact ⟨b, h1, h2, _, by rw [upd_ne hb]; exact h3, r.fz F fun _ z => z⟩
  · rcases look e1 with ⟨rfl, _, r1⟩ | ⟨hj, r1⟩ <;> rcases look e2 with ⟨rfl, _, r2⟩ | ⟨hl', r2⟩
    · rfl
    · exact g.dist _ _ _ _ b he r2 e3 e4
    · exact g.dist _ _ _ _ b r1 he e3 e4
    · exact g.dist _ _ _ _ b r1 r2 e3 e4
  · obtain ⟨h1, h', h2, r⟩ := g.tm p hp
    have hb : p.1 ≠ a := fun z => g.tmo p.1 (List.mem_map.mpr ⟨p, hp, rfl⟩) (by rw [z]; exact oa)
    exact ⟨h1, h', by rw [upd_ne hb]; exact h2, r.fz F fun _ z => z⟩
  · rcases look e with ⟨rfl, _, q⟩ | ⟨hj, q⟩
    · cases q
    · obtain ⟨b, cls, d', h1, h2, r⟩ := g.ex j x q
      exact ⟨b, cls, d', h1, h2, r.fz F fun _ z => z⟩
theorem set_self {α : Type} : ∀ {l : List α} {i : Nat} {x : α}, l[i]? = some x → l.set i x = l
  | [], _, _, _ => rfl
  | y :: l, 0, x, h => by simp at h; subst h; rfl
  | y :: l, i + 1, x, h => by
    have h' : l[i]? = some x := by simpa using h
    show y :: l.set i x = y :: l
    rw [set_self h']
/-- an own object is own no more -/
theorem Gk.freeze (g : Gk M G σ H ev c) {i : Nat} {d : D} (he : ev[i]? = some (.own d)) :
    Gk M G σ H (ev.set i (.val d)) c ∧ Fz (G.O σ ev) H (G.O σ (ev.set i (.val d))) H := by
  obtain ⟨a, q1, q2, ho, q3, q4⟩ := g.own i d he
  have hl : i < ev.length := (List.getElem?_eq_some_iff.mp he).1
  obtain ⟨g1, F1⟩ := g.setNo (i := i) (v := some (.ref a))
  rw [set_self q1] at g1 F1
  have na : ¬ G.O σ (ev.set i .no) a := fun h => by
    rcases h with h | h | ⟨j, ys, h1, h2⟩ | h
    · exact g.fo a h q2
    · exact g.lo a h q2
    · rcases look h1 with ⟨rfl, _, r⟩ | ⟨hj, r⟩
      · cases r
      · exact hj (g.dist j i ys d a r he h2 q1)
    · exact g.tmo a h ⟨i, d, he, q1⟩
  have rr := (q4.fz F1 fun _ z => z).rep q3 na
  obtain ⟨g2, F2⟩ := g1.setVal (i := i) rr
  rw [set_self q1, List.set_set] at g2 F2
  exact ⟨g2, F1.trans F2⟩
end

/-! ### blocks -/
def sNil : SF := fun ev c => .nx ev c
def sSeq (f g : SF) : SF := fun ev c => match f ev c with
  | .nx ev' c' => g ev' c'
  | r => r
def sSet (i : Nat) (e : E) : SF := fun ev c => (e ev c).toS ev fun d c => .nx (ev.set i (.val d)) c
def sDrop (e : E) : SF := fun ev c => (e ev c).toS ev fun _ c => .nx ev c
def sRet (e : E) : SF := fun ev c => (e ev c).toS ev fun d c => .ret d c
def sRetN : SF := fun _ c => .ret .non c
def sRetOwn (i : Nat) : SF := fun ev c => match ev[i]? with
  | some (.own d) => .ret d c
  | _ => .bad
def sIf (t : T) (a b : SF) : SF := fun ev c => (t ev c).toS ev fun k c => if k = true then a ev c else b ev c
def sBrk : SF := fun ev c => .brk ev c
def sCnt : SF := fun ev c => .cnt ev c
def sFrz (i : Nat) (f : SF) : SF := fun ev c => match ev[i]? with
  | some (.own d) => f (ev.set i (.val d)) c
  | _ => .bad
section
variable {X : Cx} {xo : Xo} {lo : Bool} {st : Stmt} {rest : List Stmt} {f g : SF} {e : Expr} {fe : E} {pos : Pos}
theorem DSs.nil : DSs X xo lo [] sNil := fun W hW => by
  refine PSsimp pss_nil fun D' σ H h => ?_
  obtain ⟨G, ev, c, k, hx, h⟩ := h
  exact h σ H k .refl
theorem DSs.cons (h1 : DS X xo lo st f) (h2 : DSs X xo lo rest g) : DSs X xo lo (st :: rest) (sSeq f g) := fun W hW => by
  refine PSsimp (pss_cons (h1 W hW) (h2 W hW)) fun D' σ H h => ?_
  obtain ⟨G, ev, c, k, hx, h⟩ := h
  unfold sSeq at h
  refine tS.mk k hx ?_
  cases e : f ev c with
  | nx ev' c' =>
    rw [e] at h
    exact fun σ' H' g' z => tS.mk g' hx (PostS.from h z)
  | ret d c' => rw [e] at h; exact h
  | brk ev' c' => rw [e] at h; exact h
  | cnt ev' c' => rw [e] at h; exact h
  | exc x ev' c' => rw [e] at h; exact h
  | bad => rw [e] at h; exact h
theorem DSs.one (h1 : DS X xo lo st f) : DSs X xo lo [st] f := fun W hW => pss_one (h1 W hW)
theorem DSs.frz {sts : List Stmt} {i : Nat} (h1 : DSs X xo lo sts f) : DSs X xo lo sts (sFrz i f) := fun W hW => by
  refine PSsimp (h1 W hW) fun D' σ H h => ?_
  obtain ⟨G, ev, c, k, hx, h⟩ := h
  unfold sFrz at h
  split at h
  · rename_i xs he
    obtain ⟨k2, F⟩ := k.freeze he
    exact tS.mk k2 hx (PostS.from h F)
  · exact h.elim
theorem DS.frz {i : Nat} (h1 : DS X xo lo st f) : DS X xo lo st (sFrz i f) := fun W hW => by
  refine PSimp (h1 W hW) fun D' σ H h => ?_
  obtain ⟨G, ev, c, k, hx, h⟩ := h
  unfold sFrz at h
  split at h
  · rename_i xs he
    obtain ⟨k2, F⟩ := k.freeze he
    exact tS.mk k2 hx (PostS.from h F)
  · exact h.elim
/-- name = value; the scope's row is told by hx, hf -/
theorem DS.set (i : Nat) {x : Str} {p : Pos} (hN : X.N.Nodup) (hi : X.N[i]? = some x) (hl : Loc X.env.scope x) (he : DE X xo e fe) (hs : swapsWith e (some (.Name x p)) pos.line X.env = pure false) (hf : X.fn x = true ∨ X.env.scope.names.lookup x = some .local) :
    DS X xo lo (.Assign [.Name x p] e pos) (sSet i fe) := fun W hW => by
  refine PSimp (ps_set hN hi hl (he W hW) hs hf) fun D' σ H h => ?_
  obtain ⟨G, ev, c, k, hx, h⟩ := h
  refine tG.mk k hx (PostS.bind k h fun d c1 v H1 s1 k1 g1 r1 h1 => ?_)
  exact h1 _ _ (g1.setVal r1).1 (g1.setVal r1).2
theorem DS.drop (he : DE X xo e fe) (hs : swapsWith e none pos.line X.env = pure false) : DS X xo lo (.Expr e pos) (sDrop fe) := fun W hW => by
  refine PSimp (ps_expr (he W hW) hs) fun D' σ H h => ?_
  obtain ⟨G, ev, c, k, hx, h⟩ := h
  refine tG.mk k hx (PostS.bind k h fun d c1 v H1 s1 k1 g1 r1 h1 => ?_)
  exact h1 _ _ g1 .refl
theorem Gk.fin {M : Md} {G : Gd} {σ : L2.St} {H : Hp} {ev : Env} {c : Int} {W : WX} {D' : Ends} {v : V} {d : D} (g : Gk M G σ H ev c) (r : Rep M H (G.O σ ev) G.L v d) (h : PostS M lo G σ H ev W D' (.ret d c)) : D'.rt v H := by
  unfold PostS at h
  cases lo with
  | false => exact h v H g.keep g.cell (r.fz (fz_sub fun a z => by rcases z with z | z; exact .inl z; exact .inr (.inl z)) fun _ z => z)
  | true =>
    obtain ⟨b, rfl, h⟩ := h
    cases r
    exact h H
theorem DS.ret (he : DE X xo e fe) : DS X xo lo (.Return (some e) pos) (sRet fe) := fun W hW => by
  refine PSimp (ps_ret (he W hW)) fun D' σ H h => ?_
  obtain ⟨G, ev, c, k, hx, h⟩ := h
  refine tG.mk k hx (PostS.bind k h fun d c1 v H1 s1 k1 g1 r1 h1 => ?_)
  exact g1.fin r1 h1
theorem DS.retN : DS X xo lo (.Return none pos) sRetN := fun W hW => by
  refine PSimp ps_retN fun D' σ H h => ?_
  obtain ⟨G, ev, c, k, hx, h⟩ := h
  exact k.fin .non h
theorem DS.retOwn (i : Nat) {x : Str} {p : Pos} (hN : X.N[i]? = some x) (hv : Vis X.env.scope x) (hd : cDbg x = true) : DS X xo false (.Return (some (.Name x p)) pos) (sRetOwn i) := fun W hW => by
  unfold cDbg at hd
  simp only [Bool.and_eq_true, Bool.not_eq_true'] at hd
  refine PSimp (ps_ret (pe_var hN hv hd.1.1 hd.1.2)) fun D' σ H h => ?_
  obtain ⟨G, ev, c, k, hx, h⟩ := h
  unfold sRetOwn at h
  split at h
  · rename_i xs he
    obtain ⟨a, q1, q2, ho, q3, q4⟩ := k.own i xs he
    refine ⟨_, q1, h _ _ k.keep k.cell ((q4.fz (fz_sub fun a z => ?_) fun _ z => z).rep q3 fun z => ?_)⟩
    · rcases z with z | z
      · exact .inl z
      · exact .inr (.inl z)
    · rcases z with z | z
      · exact k.fo a z q2
      · exact k.lo a z q2
  · exact h.elim
theorem DS.ite {t : Expr} {a b : List Stmt} {ft : T} (ht : DT X xo t ft) (ha : DSs X xo lo a f) (hb : DSs X xo lo b g) : DS X xo lo (.If t a b pos) (sIf ft f g) := fun W hW => by
  refine PSimp (ps_if (ht W hW) (ha W hW) (hb W hW)) fun D' σ H h => ?_
  obtain ⟨G, ev, c, k, hx, h⟩ := h
  refine tG.mk k hx (PostS.bind k h fun d c1 v H1 s1 k1 g1 r1 h1 => ?_)
  cases r1
  cases d with
  | true => exact tS.mk g1 hx h1
  | false => exact tS.mk g1 hx h1
theorem DS.pass : DS X xo lo (.Pass pos) sNil := fun W hW => by
  refine PSimp ps_pass fun D' σ H h => ?_
  obtain ⟨G, ev, c, k, hx, h⟩ := h
  exact h σ H k .refl
theorem DS.brk : DS X xo lo (.Break pos) sBrk := fun W hW => by
  refine PSimp ps_break fun D' σ H h => ?_
  obtain ⟨G, ev, c, k, hx, h⟩ := h
  exact h σ H k .refl
theorem DS.cnt : DS X xo lo (.Continue pos) sCnt := fun W hW => by
  refine PSimp ps_continue fun D' σ H h => ?_
  obtain ⟨G, ev, c, k, hx, h⟩ := h
  exact h σ H k .refl
end

/-! ### new objects that become a slot's own -/
def PostF (M : Md) (G : Gd) (σ : L2.St) (H : Hp) (ev : Env) (W : WX) (Q : V → Hp → Prop) : R D → Prop
  | .ok d c' => ∀ a ho H', Sm G.L H H' → CellOk H' G.L c' → H a = none → H' a = some ho → RepH M H' (fun b => G.O σ ev b ∨ b = a) G.L ho d → Q (.ref a) H'
  | .exc x c' => ∀ cls dd H', Sm G.L H H' → CellOk H' G.L c' → XRep M H' (G.O σ ev) G.L cls dd x → W cls dd σ H'
  | .bad => False
/-- the reading of an expression that gives a new list or dict -/
def tF (M : Md) (xo : Xo) (f : E) (W : WX) : TE := fun σ H Q => ∃ G ev c, Gk M G σ H ev c ∧ G.xo = xo ∧ PostF M G σ H ev W Q (f ev c)
def DF (X : Cx) (xo : Xo) (e : Expr) (f : E) : Prop := ∀ W, Takes X W → PE X e (tF X.md xo f W)
def sOwn (i : Nat) (f : E) : SF := fun ev c => (f ev c).toS ev fun d c => if i < ev.length then .nx (ev.set i (.own d)) c else .bad
section
variable {M : Md} {G : Gd} {σ : L2.St} {H H1 : Hp} {ev : Env} {c c1 : Int} {W : WX} {Q : V → Hp → Prop}
theorem none_back (g : Gk M G σ H ev c) (s : Sm G.L H H1) (k1 : CellOk H1 G.L c1) {p : Addr} (np : H1 p = none) : H p = none := by
  cases q : H p with
  | none => rfl
  | some o =>
    by_cases z : G.L = some p
    · rw [k1 p z] at np; cases np
    · rw [s p o q z] at np; cases np
theorem PostF.bind {α β : Type} {rel : Hp → β → α → Prop} {Q1 : β → Hp → Prop} {r : R α} {k : α → Int → R D} (g : Gk M G σ H ev c) (h : PostF M G σ H ev W Q (r.bind k))
    (hq : ∀ d c1 v H1, Sm G.L H H1 → CellOk H1 G.L c1 → Gk M G σ H1 ev c1 → rel H1 v d → PostF M G σ H1 ev W Q (k d c1) → Q1 v H1) : Post M G σ H ev W rel Q1 r := by
  cases r with
  | ok a c1 =>
    intro v H1 s k1 q
    refine hq a c1 v H1 s k1 (g.sm s k1) q ?_
    have h' : PostF M G σ H ev W Q (k a c1) := h
    cases e : k a c1 with
    | ok xs c2 =>
      rw [e] at h'
      exact fun p ho H' s2 k2 np => h' p ho H' (s.trans s2) k2 (none_back g s k1 np)
    | exc x c2 =>
      rw [e] at h'
      exact fun cls dd H' s2 k2 => h' cls dd H' (s.trans s2) k2
    | bad => rw [e] at h'; exact h'
  | exc x c1 => exact h
  | bad => exact h
theorem PostF.new {d : D} {ho : HO} (h : PostF M G σ H ev W Q (.ok d c)) (k : CellOk H G.L c) {p : Addr} (np : H p = none) (r : RepH M H (G.O σ ev) G.L ho d) : Q (.ref p) (upd H p ho) :=
  h p ho _ (.of_same (same_updN np)) (CellOk.same (same_updN np) k) np upd_same (r.fz (fun a u e n => ⟨same_updN np a u e, fun z => by
    rcases z with z | z
    · exact n z
    · rw [z, np] at e; cases e⟩) fun _ z => z)
theorem PostF.toS {lo : Bool} {D' : Ends} {r : R D} {i : Nat} (g : Gk M G σ H ev c)
    (h : PostS M lo G σ H ev W D' (r.toS ev fun xs c => if i < ev.length then .nx (ev.set i (.own xs)) c else .bad)) : PostF M G σ H ev W (fun x H1 => gName i x σ H1 D'.nx) r := by
  cases r with
  | ok xs c' =>
    intro a vs H' s k1 n ha r
    have h' : PostS M lo G σ H ev W D' (if i < ev.length then .nx (ev.set i (.own xs)) c' else .bad) := h
    by_cases hl : i < ev.length
    · rw [if_pos hl] at h'
      obtain ⟨g2, F⟩ := g.setOwn s k1 hl n ha r
      exact h' _ _ g2 F
    · rw [if_neg hl] at h'; exact h'.elim
  | exc x c' => exact fun cls dd H1 s k1 q => h cls dd σ H1 (g.sm s k1) (Gd.fzSm s) q
  | bad => exact h
end
/-- list(e) -/
def gList : List D → Option D := dList
def gRep : D → D → Option D
  | .lst xs, .int k => if decide (k < 2 ^ 63) && (decide (-(2 ^ 63) ≤ k) && decide (xs.length * k.toNat ≤ sizeLine)) then some (.lst (List.replicate k.toNat xs).flatten) else none
  | _, _ => none
section
variable {X : Cx} {xo : Xo} {lo : Bool} {e : Expr} {es : List Expr} {fe : E} {fr : EL} {pos : Pos}
theorem DF.de (h : DF X xo e fe) : DE X xo e fe := fun W hW => by
  refine PEimp (h W hW) fun σ H Q h => ?_
  obtain ⟨G, ev, c, k, hx, h⟩ := h
  refine ⟨G, ev, c, k, hx, ?_⟩
  cases e : fe ev c with
  | ok xs c' =>
    rw [e] at h
    intro a ho H' s k1 n ha r
    exact h _ H' s k1 ((r.fz (fz_sub fun b z => .inl z) fun _ z => z).rep ha fun z => k.tr z n)
  | exc x c' => rw [e] at h; exact h
  | bad => rw [e] at h; exact h
theorem DF.lst (hr : DA X xo es fr) : DF X xo (.List es pos) (eLst fr) := fun W hW => by
  refine PEimp (pe_lst (hr W hW)) fun σ H Q h => ?_
  obtain ⟨G, ev, c, k, hx, h⟩ := h
  refine tG.mk k hx (PostF.bind k h fun xs c1 vs H1 s1 k1 g1 r1 h1 => ?_)
  by_cases hz : xs.length ≤ sizeLine
  · rw [if_pos hz] at h1
    exact ⟨by rw [RepA.length r1]; exact hz, fun p np => h1.new k1 np (.lst r1)⟩
  · rw [if_neg hz] at h1; exact h1.elim
theorem DF.list {x : Str} {p : Pos} (hm : X.mg x = none) (hv : bootBuiltins x = some (.type "list")) (hg : Gl X x) (hd : cDbg x = true) (ha : DBA X xo (e :: es) fr)
    (he : starEach (e :: es) X.env = (false, eval e X.env) :: starEach es X.env := by rfl) (hpl : (backTo pos (starEach es X.env)).any (·.1) = false := by rfl) : DF X xo (.Call (.Name x p) (e :: es) [] pos) (eFn dList fr) := fun W hW => by
  unfold cDbg at hd
  simp only [Bool.and_eq_true, Bool.not_eq_true'] at hd
  refine PEimp (pe_callTy call_list_of hg hm hv (ha W hW) (by simpa using hd.2) hd.1.1 he hpl) fun σ H Q h => ?_
  obtain ⟨G, ev, c, k, hx, h⟩ := h
  refine tG.mk k hx (PostF.bind k h fun ds c1 vs H1 s1 k1 g1 r1 h1 => ?_)
  have r1' : RepBA X.md H1 (G.O σ ev) G.L vs ds := r1
  cases ez : dList ds with
  | none => rw [ez] at h1; exact h1.elim
  | some xs =>
    rw [ez] at h1
    unfold dList at ez
    split at ez
    · obtain ⟨v, rfl, h2⟩ := repA1 r1'
      obtain ⟨a, ws, rfl, h3, h4⟩ := h2.lst_eq
      cases ez
      exact ⟨_, _, rfl, .inl (.of h3), fun p np => PostF.new h1 k1 np (.lst h4)⟩
    · obtain ⟨v, rfl, h2⟩ := repA1 r1'
      obtain ⟨a, ws, rfl, h3, h4⟩ := h2.tup_eq
      cases ez
      exact ⟨_, _, rfl, .inr h3, fun p np => PostF.new h1 k1 np (.lst h4)⟩
    · cases ez
/-- xs * n -/
theorem DF.rep {a b : Expr} {fa fb : E} (ha : DB X xo a fa) (hb : DB X xo b fb) : DF X xo (.BinOp a .Mult b pos) (eBin gRep fa fb) := fun W hW => by
  refine PEimp (pe_op op_rep (ha W hW) (hb W hW)) fun σ H Q h => ?_
  obtain ⟨G, ev, c, k, hx, h⟩ := h
  refine tG.mk k hx (PostF.bind k h fun dx c1 x H1 s1 k1 g1 r1 h1 => ?_)
  refine tG.mk g1 hx (PostF.bind g1 h1 fun dy c2 y H2 s2 k2 g2 r2 h2 => ?_)
  have r1' : RepB X.md H2 (G.O σ ev) G.L x dx := RepB.sm s2 r1
  have r2' : RepB X.md H2 (G.O σ ev) G.L y dy := r2
  cases ez : gRep dx dy with
  | none => rw [ez] at h2; exact h2.elim
  | some xs =>
    rw [ez] at h2
    unfold gRep at ez
    split at ez
    · obtain rfl := r2'.int_eq
      obtain ⟨a, ws, rfl, h3, h4⟩ := r1'.lst_eq
      split at ez <;> cases ez
      rename_i z
      simp only [Bool.and_eq_true, decide_eq_true_eq] at z
      exact ⟨_, _, _, rfl, rfl, h3, z.2.1, z.1, by rw [RepA.length h4]; exact z.2.2, fun p np => PostF.new h2 k2 np (.lst (h4.flatten _))⟩
    · cases ez
theorem DS.own (i : Nat) {x : Str} {p : Pos} (hN : X.N.Nodup) (hi : X.N[i]? = some x) (hl : Loc X.env.scope x) (he : DF X xo e fe) (hs : swapsWith e (some (.Name x p)) pos.line X.env = pure false) (hf : X.fn x = true ∨ X.env.scope.names.lookup x = some .local) :
    DS X xo lo (.Assign [.Name x p] e pos) (sOwn i fe) := fun W hW => by
  refine PSimp (ps_set hN hi hl (he W hW) hs hf) fun D' σ H h => ?_
  obtain ⟨G, ev, c, k, hx, h⟩ := h
  exact ⟨G, ev, c, k, hx, PostF.toS k h⟩
end
end DW

set_option Elab.async false
set_option linter.all false
set_option maxRecDepth 100000
set_option maxHeartbeats 4000000
/-! DW6: scopes, targets, assignments, own objects. -/
namespace DW
open PySem PySem.Spec L2

/-! ### scopes -/
/-- a block: its names, the frame's names, which cells are the frame's -/
structure Blk where
  sc : Scope
  N : List Str
  fc : Str → Bool
structure ScX (X : Cx) (B : Blk) : Prop where
  sc : X.env.scope = B.sc
  N : X.N = B.N
  nd : X.N.Nodup
  calm : X.calm = true
  fn : ∀ x, B.fc x = true → X.fn x = true
def kLoc : Option NameKind → Bool
  | some .local => true
  | some .cell => true
  | _ => false
def kVis : Option NameKind → Bool
  | some .local => true
  | some .cell => true
  | some .free => true
  | _ => false
def kGl : Option NameKind → Bool
  | some .globalImplicit => true
  | _ => false
def kL : Option NameKind → Bool
  | some .local => true
  | _ => false
def Blk.var (B : Blk) (i : Nat) (x : Str) : Bool := decide (B.N[i]? = some x) && (kVis (B.sc.names.lookup x) && cDbg x)
def Blk.tgt (B : Blk) (i : Nat) (x : Str) : Bool := decide (B.N[i]? = some x) && (kLoc (B.sc.names.lookup x) && (B.fc x || kL (B.sc.names.lookup x)))
def Blk.gl (B : Blk) (x : Str) : Bool := kGl (B.sc.names.lookup x) && cDbg x
theorem kVis_ok {o : Option NameKind} (h : kVis o = true) : o = some .local ∨ o = some .cell ∨ o = some .free := by
  unfold kVis at h
  split at h
  · exact .inl rfl
  · exact .inr (.inl rfl)
  · exact .inr (.inr rfl)
  · cases h
theorem kLoc_ok {o : Option NameKind} (h : kLoc o = true) : o = some .local ∨ o = some .cell := by
  unfold kLoc at h
  split at h
  · exact .inl rfl
  · exact .inr rfl
  · cases h
theorem kL_ok {o : Option NameKind} (h : kL o = true) : o = some .local := by
  unfold kL at h
  split at h
  · rfl
  · cases h
theorem kGl_ok {o : Option NameKind} (h : kGl o = true) : o = some .globalImplicit := by
  unfold kGl at h
  split at h
  · rfl
  · cases h
section
variable {X : Cx} {B : Blk} {xo : Xo} {pos : Pos}
theorem ScX.visN (S : ScX X B) {i : Nat} {x : Str} (h : B.var i x = true) : X.N[i]? = some x ∧ L2.Vis X.env.scope x ∧ cDbg x = true := by
  unfold Blk.var at h
  simp only [Bool.and_eq_true, decide_eq_true_eq] at h
  exact ⟨by rw [S.N]; exact h.1, by unfold L2.Vis; rw [S.sc]; exact kVis_ok h.2.1, h.2.2⟩
theorem ScX.tgtN (S : ScX X B) {i : Nat} {x : Str} (h : B.tgt i x = true) : X.N[i]? = some x ∧ L2.Loc X.env.scope x ∧ (X.fn x = true ∨ X.env.scope.names.lookup x = some .local) := by
  unfold Blk.tgt at h
  simp only [Bool.and_eq_true, decide_eq_true_eq, Bool.or_eq_true] at h
  refine ⟨by rw [S.N]; exact h.1, by unfold L2.Loc; rw [S.sc]; exact kLoc_ok h.2.1, ?_⟩
  rcases h.2.2 with q | q
  · exact .inl (S.fn x q)
  · exact .inr (by rw [S.sc]; exact kL_ok q)
theorem ScX.gl (S : ScX X B) {x : Str} (h : B.gl x = true) : Gl X x ∧ cDbg x = true := by
  unfold Blk.gl at h
  simp only [Bool.and_eq_true] at h
  refine ⟨?_, h.2⟩
  show X.env.scope.names.lookup x = some .globalImplicit
  rw [S.sc]
  exact kGl_ok h.1
theorem ScX.var (S : ScX X B) (i : Nat) {x : Str} (h : B.var i x = true) : DE X xo (.Name x pos) (eVar i) := let ⟨a, b, c⟩ := S.visN h; DE.var i a b c
theorem ScX.bor (S : ScX X B) (i : Nat) {x : Str} (h : B.var i x = true) : DB X xo (.Name x pos) (eBor i) := let ⟨a, b, c⟩ := S.visN h; DB.own i a b c
theorem ScX.glob (S : ScX X B) {x : Str} {d : D} (g : GlobD X.md x d) (h : B.gl x = true) : DE X xo (.Name x pos) (eK d) := let ⟨a, b⟩ := S.gl h; DE.glob g a b
theorem ScX.fnv (S : ScX X B) {x : Str} {f : Addr} (hm : X.mg x = some (.ref f)) (h : B.gl x = true) : DE X xo (.Name x pos) (eK (.fn x)) := let ⟨a, b⟩ := S.gl h; DE.fnv hm a b
theorem ScX.bty (S : ScX X B) {x : Str} {n : String} (hm : X.mg x = none) (hv : bootBuiltins x = some (.type n)) (h : B.gl x = true) : DE X xo (.Name x pos) (eK (.ty n)) := let ⟨a, b⟩ := S.gl h; DE.bty hm hv a b
variable {e : Expr} {es : List Expr} {fr : EL} {p : Pos} {x : Str} {g : List D → Option D} {id : String}
theorem ScX.callB (S : ScX X B) (hc : CallD X (.builtin id) g) (hm : X.mg x = none) (hv : bootBuiltins x = some (.builtin id)) (h : B.gl x = true) (ha : DBA X xo (e :: es) fr)
    (he : starEach (e :: es) X.env = (false, eval e X.env) :: starEach es X.env := by rfl) (hpl : (backTo pos (starEach es X.env)).any (·.1) = false := by rfl) : DE X xo (.Call (.Name x p) (e :: es) [] pos) (eFn g fr) := let ⟨a, b⟩ := S.gl h; DE.callB hc hm hv a b ha he hpl
theorem ScX.callTy (S : ScX X B) (hc : CallD X (.type id) g) (hm : X.mg x = none) (hv : bootBuiltins x = some (.type id)) (h : B.gl x = true) (ha : DBA X xo (e :: es) fr)
    (he : starEach (e :: es) X.env = (false, eval e X.env) :: starEach es X.env := by rfl) (hpl : (backTo pos (starEach es X.env)).any (·.1) = false := by rfl) : DE X xo (.Call (.Name x p) (e :: es) [] pos) (eFn g fr) := let ⟨a, b⟩ := S.gl h; DE.callTy hc hm hv a b ha he hpl
theorem ScX.call {F : Fn} (S : ScX X B) (C : CallOk X x F) (h : B.gl x = true) (ha : DA X xo (e :: es) fr)
    (he : starEach (e :: es) X.env = (false, eval e X.env) :: starEach es X.env := by rfl) (hpl : (backTo pos (starEach es X.env)).any (·.1) = false := by rfl) : DE X xo (.Call (.Name x p) (e :: es) [] pos) (eCall F fr) := let ⟨a, b⟩ := S.gl h; DE.call C a b ha he hpl
theorem ScX.call0 {F : Fn} (S : ScX X B) (C : CallOk X x F) (h : B.gl x = true) : DE X xo (.Call (.Name x p) [] [] pos) (eCall F aNil) := let ⟨a, b⟩ := S.gl h; DE.call0 C a b
theorem ScX.callList (S : ScX X B) (hm : X.mg x = none) (hv : bootBuiltins x = some (.type "list")) (h : B.gl x = true) (ha : DBA X xo (e :: es) fr)
    (he : starEach (e :: es) X.env = (false, eval e X.env) :: starEach es X.env := by rfl) (hpl : (backTo pos (starEach es X.env)).any (·.1) = false := by rfl) : DF X xo (.Call (.Name x p) (e :: es) [] pos) (eFn dList fr) := let ⟨a, b⟩ := S.gl h; DF.list hm hv a b ha he hpl
end

/-! ### targets -/
inductive Pt where
  | nm (i : Nat) | tp (ps : List Pt)
mutual
def bindP : Pt → D → Env → Option Env
  | .nm i, d, ev => some (ev.set i (.val d))
  | .tp ps, .tup ds, ev => bindPs ps ds ev
  | .tp _, _, _ => none
def bindPs : List Pt → List D → Env → Option Env
  | [], [], ev => some ev
  | p :: ps, d :: ds, ev => (bindP p d ev).bind fun ev => bindPs ps ds ev
  | _, _, _ => none
end
mutual
def gPt (K : PySem.W.Frag) : Pt → TG
  | .nm i => gName i
  | .tp ps => gTup K ps.length (gPts K ps)
def gPts (K : PySem.W.Frag) : List Pt → TGs
  | [] => gNil
  | p :: ps => gCons (gPt K p) (gPts K ps)
end
mutual
def Pt.slots : Pt → List Nat
  | .nm i => [i]
  | .tp ps => Pt.slotss ps
def Pt.slotss : List Pt → List Nat
  | [] => []
  | p :: ps => p.slots ++ Pt.slotss ps
end
def DG (X : Cx) (tg : Expr) (p : Pt) : Prop := PG X tg (gPt X.K p)
def DGs (X : Cx) (tg : List Expr) (p : List Pt) : Prop := PGs X tg (gPts X.K p)
theorem wipe_get {σ : St} {j : Nat} : ∀ {vs : List Nat}, (wipe σ vs)[j]? = if j ∈ vs ∧ j < σ.length then some none else σ[j]?
  | [] => by simp [wipe]
  | v :: vs => by
    unfold wipe
    by_cases h : v = j
    · subst h
      by_cases hl : v < σ.length
      · rw [List.getElem?_set_self (by rw [wipe_length]; exact hl), if_pos ⟨List.mem_cons_self, hl⟩]
      · rw [List.getElem?_eq_none (by rw [List.length_set, wipe_length]; omega), if_neg (fun z => hl z.2), List.getElem?_eq_none (by omega)]
    · rw [List.getElem?_set_ne h, wipe_get]
      have : (j ∈ v :: vs) ↔ j ∈ vs := by
        simp only [List.mem_cons]
        exact ⟨fun z => z.resolve_left fun q => h q.symm, .inr⟩
      simp only [this]
theorem wipe_set {σ : St} {i : Nat} {v : Option V} {vs : List Nat} (h : i ∈ vs) : wipe (σ.set i v) vs = wipe σ vs := by
  apply List.ext_getElem?
  intro j
  rw [wipe_get, wipe_get, List.length_set]
  by_cases hj : i = j
  · subst hj
    by_cases hl : i < σ.length
    · rw [if_pos ⟨h, hl⟩, if_pos ⟨h, hl⟩]
    · rw [if_neg (fun z => hl z.2), if_neg (fun z => hl z.2), List.getElem?_eq_none (by rw [List.length_set]; omega), List.getElem?_eq_none (by omega)]
  · rw [List.getElem?_set_ne hj]
section
variable {M : Md} {G : Gd} {H : Hp} {c : Int}
theorem bindPs_len : ∀ (ps : List Pt) {ds : List D} {ev ev' : Env}, bindPs ps ds ev = some ev' → ds.length = ps.length
  | [], [], _, _, _ => rfl
  | [], _ :: _, _, _, e => by unfold bindPs at e; cases e
  | _ :: _, [], _, _, e => by unfold bindPs at e; cases e
  | p :: ps, d :: ds, ev, ev', e => by
    unfold bindPs at e
    cases e1 : bindP p d ev with
    | none => rw [e1] at e; cases e
    | some ev1 =>
      rw [e1] at e
      have e : bindPs ps ds ev1 = some ev' := e
      rw [List.length_cons, List.length_cons, bindPs_len ps e]
mutual
theorem gPt_ok : ∀ (p : Pt) {σ : St} {ev ev' : Env} {v : V} {d : D} {Q : St → Hp → Prop}, Gk M G σ H ev c → Rep M H (G.O σ ev) G.L v d → bindP p d ev = some ev' →
    (∀ σ', Gk M G σ' H ev' c → Fz (G.O σ ev) H (G.O σ' ev') H → (∀ vs, (∀ i ∈ p.slots, i ∈ vs) → wipe σ' vs = wipe σ vs) → Q σ' H) → gPt M.K p v σ H Q
  | .nm i, σ, ev, ev', v, d, Q, g, r, e, h => by
    unfold bindP at e
    cases e
    have q := g.setVal (i := i) r
    unfold gPt
    exact h _ q.1 q.2 fun vs hv => wipe_set (hv i (by simp [Pt.slots]))
  | .tp ps, σ, ev, ev', v, d, Q, g, r, e, h => by
    cases d with
    | tup ds =>
      unfold bindP at e
      obtain ⟨a, vs, rfl, h1, h2⟩ := r.tup_eq
      unfold gPt
      refine ⟨a, vs, rfl, h1, ?_, gPts_ok ps g h2 e fun σ' g' F w => h σ' g' F fun vs hv => w vs (by simpa [Pt.slots] using hv)⟩
      rw [RepA.length h2]
      exact bindPs_len ps e
    | _ => exact absurd e (by unfold bindP; exact fun z => by cases z)
theorem gPts_ok : ∀ (ps : List Pt) {σ : St} {ev ev' : Env} {vs : List V} {ds : List D} {Q : St → Hp → Prop}, Gk M G σ H ev c → RepA M H (G.O σ ev) G.L vs ds → bindPs ps ds ev = some ev' →
    (∀ σ', Gk M G σ' H ev' c → Fz (G.O σ ev) H (G.O σ' ev') H → (∀ vs, (∀ i ∈ Pt.slotss ps, i ∈ vs) → wipe σ' vs = wipe σ vs) → Q σ' H) → gPts M.K ps vs σ H Q
  | [], σ, ev, ev', vs, ds, Q, g, r, e, h => by
    cases ds with
    | nil =>
      unfold bindPs at e
      cases e
      cases r
      unfold gPts
      exact ⟨rfl, h σ g Fz.refl fun _ _ => rfl⟩
    | cons d ds => unfold bindPs at e; cases e
  | p :: ps, σ, ev, ev', vs, ds, Q, g, r, e, h => by
    cases ds with
    | nil => unfold bindPs at e; cases e
    | cons d ds =>
      unfold bindPs at e
      cases e1 : bindP p d ev with
      | none => rw [e1] at e; cases e
      | some ev1 =>
        rw [e1] at e
        have e : bindPs ps ds ev1 = some ev' := e
        cases r with
        | cons r rr =>
          rename_i v vs
          unfold gPts
          refine ⟨v, vs, rfl, gPt_ok p g r e1 fun σ1 g1 F1 w1 => gPts_ok ps g1 (rr.fz F1 fun _ z => z) e fun σ' g' F w => h σ' g' (F1.trans F) fun ws hw => ?_⟩
          have hw1 : ∀ i ∈ p.slots, i ∈ ws := fun i hi => hw i (by unfold Pt.slotss; exact List.mem_append_left _ hi)
          have hw2 : ∀ i ∈ Pt.slotss ps, i ∈ ws := fun i hi => hw i (by unfold Pt.slotss; exact List.mem_append_right _ hi)
          rw [w ws hw2, w1 ws hw1]
end
end
section
variable {X : Cx} {B : Blk} {xo : Xo} {lo : Bool} {pos : Pos} {e tg : Expr} {fe : E}
theorem ScX.nm (S : ScX X B) (i : Nat) {x : Str} (h : B.tgt i x = true) : DG X (.Name x pos) (.nm i) := by
  obtain ⟨a, b, c⟩ := S.tgtN h
  unfold DG gPt
  exact pg_name S.nd a b c
theorem DGs.nil : DGs X [] [] := by unfold DGs gPts; exact pgs_nil
theorem DGs.cons {p : Pt} {es : List Expr} {ps : List Pt} (h1 : DG X e p) (h2 : DGs X es ps) (hs : (assignEach (e :: es) X.env).map (·.2) = assign e X.env :: (assignEach es X.env).map (·.2) := by rfl) : DGs X (e :: es) (p :: ps) := by
  unfold DGs gPts; exact pgs_cons h1 h2 hs
theorem ScX.tp (S : ScX X B) {es : List Expr} {ps : List Pt} {k : Nat} (h : DGs X es ps) (hn : (assignEach es X.env).length = ps.length := by rfl) (hst : (assignEach es X.env).findIdx? (·.1) = none := by rfl) : DG X (.Tuple es k pos) (.tp ps) := by
  unfold DG gPt
  exact pg_tup S.calm h hn hst
def sAsg (p : Pt) (e : E) : SF := fun ev c => (e ev c).toS ev fun d c => match bindP p d ev with
  | some ev' => .nx ev' c
  | none => .bad
theorem bind_post {M : Md} {G : Gd} {σ : St} {H : Hp} {ev : Env} {c : Int} {W : WX} {D' : Ends} {p : Pt} {v : V} {d : D} (g : Gk M G σ H ev c) (r : Rep M H (G.O σ ev) G.L v d)
    (h : PostS M lo G σ H ev W D' (match bindP p d ev with | some ev' => .nx ev' c | none => .bad)) : gPt M.K p v σ H D'.nx := by
  cases e : bindP p d ev with
  | none => rw [e] at h; exact h.elim
  | some ev' =>
    rw [e] at h
    exact gPt_ok p g r e fun σ' g' F _ => h σ' H g' F
/-- target = value -/
theorem DS.asg {p : Pt} (hg : DG X tg p) (he : DE X xo e fe) (hs : swapsWithSole [tg] e pos.line X.env = pure false := by rfl) (hw : swappedStores [tg] e X.env = pure none := by rfl)
    (h1 : (assignEach [tg] X.env).map (·.2) = [assign tg X.env] := by rfl) : DS X xo lo (.Assign [tg] e pos) (sAsg p fe) := fun W hW => by
  refine PSimp (ps_asg (he W hW) hg hs hw h1) fun D' σ H h => ?_
  obtain ⟨G, ev, c, k, hx, h⟩ := h
  exact tG.mk k hx (PostS.bind k h fun d c1 v H1 s1 k1 g1 r1 h1 => bind_post g1 r1 h1)
/-- name = value -/
theorem ScX.set (S : ScX X B) (i : Nat) {x : Str} {p : Pos} (h : B.tgt i x = true) (he : DE X xo e fe) (hs : swapsWith e (some (.Name x p)) pos.line X.env = pure false := by rfl) : DS X xo lo (.Assign [.Name x p] e pos) (sSet i fe) :=
  let ⟨a, b, c⟩ := S.tgtN h; DS.set i S.nd a b he hs c
theorem ScX.own (S : ScX X B) (i : Nat) {x : Str} {p : Pos} (h : B.tgt i x = true) (he : DF X xo e fe) (hs : swapsWith e (some (.Name x p)) pos.line X.env = pure false := by rfl) : DS X xo lo (.Assign [.Name x p] e pos) (sOwn i fe) :=
  let ⟨a, b, c⟩ := S.tgtN h; DS.own i S.nd a b he hs c
theorem ScX.retOwn (S : ScX X B) (i : Nat) {x : Str} {p : Pos} (h : B.var i x = true) : DS X xo false (.Return (some (.Name x p)) pos) (sRetOwn i) := let ⟨a, b, c⟩ := S.visN h; DS.retOwn i a b c
end
end DW

set_option Elab.async false
set_option linter.all false
set_option maxRecDepth 100000
set_option maxHeartbeats 4000000
/-! DW7: several assignments at once, own objects changed. -/
namespace DW
open PySem PySem.Spec L2

/-! ### a, b = x, y -/
section
variable {M : Md} {G : Gd} {σ : St} {H H' : Hp} {ev : Env} {c c' : Int}
/-- one of the objects on their way comes into the slot -/
theorem Gk.take' {T1 T2 : List (Addr × D)} {a : Addr} {d : D} (g : Gk M (G.tm (T1 ++ (a, d) :: T2)) σ H ev c) {i : Nat} (hl : i < ev.length) :
    Gk M (G.tm (T1 ++ T2)) (σ.set i (some (.ref a))) H (ev.set i (.own d)) c ∧ Fz ((G.tm (T1 ++ (a, d) :: T2)).O σ ev) H ((G.tm (T1 ++ T2)).O (σ.set i (some (.ref a))) (ev.set i (.own d))) H := by
  have nd0 : (((a, d) :: (T1 ++ T2)).map (·.1)).Nodup := by
    have h := g.tmd
    have e : (T1 ++ (a, d) :: T2).map (·.1) = T1.map (·.1) ++ a :: T2.map (·.1) := by simp
    have h : (T1.map (·.1) ++ a :: T2.map (·.1)).Nodup := by rw [← e]; exact h
    have h2 : (a :: (T1.map (·.1) ++ T2.map (·.1))).Nodup := (List.perm_middle.nodup_iff).mp h
    simpa using h2
  have memI : ∀ {q : Addr × D}, q ∈ (a, d) :: (T1 ++ T2) → q ∈ T1 ++ (a, d) :: T2 := fun {q} h => by
    rcases List.mem_cons.mp h with h | h
    · subst h; exact List.mem_append_right _ List.mem_cons_self
    · rcases List.mem_append.mp h with h | h
      · exact List.mem_append_left _ h
      · exact List.mem_append_right _ (List.mem_cons_of_mem _ h)
  obtain ⟨g1, F1⟩ := g.deal (T := (a, d) :: (T1 ++ T2)) g.len g.val (fun i d' e => let ⟨b, h1, _⟩ := g.own i d' e; ⟨b, h1, .inl ⟨i, e, h1⟩⟩) g.dist (fun p hp => memI hp) nd0 (fun b hb => by
    obtain ⟨p, hp, rfl⟩ := List.mem_map.mp hb
    exact g.tmo p.1 (List.mem_map.mpr ⟨p, memI hp, rfl⟩)) g.ex
  obtain ⟨g2, F2⟩ := Gk.take (G := G) (T := T1 ++ T2) g1 hl
  exact ⟨g2, F1.trans F2⟩
/-- all of them are frozen -/
theorem Gk.dropAll : ∀ {T : List (Addr × D)} {G : Gd}, Gk M (G.tm (T ++ G.Tm)) σ H ev c → Gk M G σ H ev c ∧ Fz ((G.tm (T ++ G.Tm)).O σ ev) H (G.O σ ev) H
  | [], G, g => ⟨g, .refl⟩
  | (a, d) :: T, G, g => by
    obtain ⟨g1, F1, _⟩ := Gk.drop (G := G) (T := T ++ G.Tm) g
    obtain ⟨g2, F2⟩ := Gk.dropAll (T := T) (G := G) g1
    exact ⟨g2, F1.trans F2⟩
end
/-- what comes into slots: values, objects on their way -/
inductive Cvs (M : Md) (H : Hp) (O : Addr → Prop) (L : Option Addr) : List (Addr × D) → List V → List S → Prop
  | nil : Cvs M H O L [] [] []
  | val {T : List (Addr × D)} {v : V} {vs : List V} {d : D} {ss : List S} : Rep M H O L v d → Cvs M H O L T vs ss → Cvs M H O L T (v :: vs) (.val d :: ss)
  | own {T : List (Addr × D)} {a : Addr} {vs : List V} {d : D} {ss : List S} : Cvs M H O L T vs ss → Cvs M H O L ((a, d) :: T) (.ref a :: vs) (.own d :: ss)
theorem Cvs.fz {M : Md} {H H' : Hp} {O O' : Addr → Prop} {L L' : Option Addr} (F : Fz O H O' H') (l : ∀ a, L = some a → L' = some a) : ∀ {T : List (Addr × D)} {vs : List V} {ss : List S}, Cvs M H O L T vs ss → Cvs M H' O' L' T vs ss
  | _, _, _, .nil => .nil
  | _, _, _, .val r h => .val (r.fz F l) (Cvs.fz F l h)
  | _, _, _, .own h => .own (Cvs.fz F l h)
def setAll : List Nat → List S → Env → Env
  | i :: is, s :: ss, ev => setAll is ss (ev.set i s)
  | _, _, ev => ev
def setV : List Nat → List V → St → St
  | i :: is, v :: vs, σ => setV is vs (σ.set i (some v))
  | _, _, σ => σ
theorem Gk.setAll {M : Md} {H : Hp} {c : Int} : ∀ {G : Gd} {T : List (Addr × D)} {is : List Nat} {vs : List V} {ss : List S} {σ : St} {ev : Env}, Gk M (G.tm (T.reverse ++ G.Tm)) σ H ev c → Cvs M H ((G.tm (T.reverse ++ G.Tm)).O σ ev) G.L T vs ss →
    is.length = ss.length → (∀ i ∈ is, i < ev.length) → Gk M G (setV is vs σ) H (DW.setAll is ss ev) c ∧ Fz ((G.tm (T.reverse ++ G.Tm)).O σ ev) H (G.O (setV is vs σ) (DW.setAll is ss ev)) H
  | G, _, [], _, _, σ, ev, g, .nil, _, _ => ⟨g, .refl⟩
  | G, T, i :: is, _, _, σ, ev, g, .val r h, hl, hi => by
    obtain ⟨g1, F1⟩ := g.setVal (i := i) r
    obtain ⟨g2, F2⟩ := Gk.setAll (G := G) (is := is) g1 (h.fz F1 fun _ z => z) (by simpa using hl) (fun j hj => by rw [List.length_set]; exact hi j (List.mem_cons_of_mem _ hj))
    exact ⟨g2, F1.trans F2⟩
  | G, (a, d) :: T, i :: is, _, _, σ, ev, g, .own h, hl, hi => by
    have e : ((a, d) :: T).reverse ++ G.Tm = T.reverse ++ (a, d) :: G.Tm := by simp
    rw [e] at g h ⊢
    obtain ⟨g1, F1⟩ := Gk.take' g (hi i List.mem_cons_self)
    obtain ⟨g2, F2⟩ := Gk.setAll (G := G) (is := is) g1 (h.fz F1 fun _ z => z) (by simpa using hl) (fun j hj => by rw [List.length_set]; exact hi j (List.mem_cons_of_mem _ hj))
    exact ⟨g2, F1.trans F2⟩
/-- the parts: (own?, mirror) -/
def eCs : List (Bool × E) → Env → Int → R (List S)
  | [], _, c => .ok [] c
  | (o, e) :: r, ev, c => (e ev c).bind fun d c => (eCs r ev c).bind fun ss c => .ok ((if o = true then .own d else .val d) :: ss) c
def PostCs (M : Md) (G : Gd) (σ : St) (H : Hp) (ev : Env) (W : WX) (Q : List V → Hp → Prop) : R (List S) → Prop
  | .ok ss c' => ∀ vs H' T, Gk M (G.tm (T.reverse ++ G.Tm)) σ H' ev c' → Fz (G.O σ ev) H ((G.tm (T.reverse ++ G.Tm)).O σ ev) H' → Cvs M H' ((G.tm (T.reverse ++ G.Tm)).O σ ev) G.L T vs ss → Q vs H'
  | .exc x c' => ∀ cls dd H', Gk M G σ H' ev c' → Fz (G.O σ ev) H (G.O σ ev) H' → XRep M H' (G.O σ ev) G.L cls dd x → W cls dd σ H'
  | .bad => False
def tCs (M : Md) (xo : Xo) (f : Env → Int → R (List S)) (W : WX) : TA := fun σ H Q => ∃ G ev c, Gk M G σ H ev c ∧ G.xo = xo ∧ PostCs M G σ H ev W Q (f ev c)
def DCs (X : Cx) (xo : Xo) (es : List Expr) (cs : List (Bool × E)) : Prop := ∀ W, Takes X W → PA X es (tCs X.md xo (eCs cs) W)
section
variable {X : Cx} {xo : Xo} {e : Expr} {es : List Expr} {fe : E} {cs : List (Bool × E)}
theorem DCs.nil : DCs X xo [] [] := fun W hW => by
  refine PAimp pa_nil fun σ H Q h => ?_
  obtain ⟨G, ev, c, k, hx, h⟩ := h
  exact h [] H [] k .refl .nil
theorem DCs.val (he : DE X xo e fe) (hr : DCs X xo es cs) (hs : starEach (e :: es) X.env = (false, eval e X.env) :: starEach es X.env := by rfl) : DCs X xo (e :: es) ((false, fe) :: cs) := fun W hW => by
  refine PAimp (pa_cons (he W hW) (hr W hW) hs) fun σ H Q h => ?_
  obtain ⟨G, ev, c, k, hx, h⟩ := h
  unfold eCs at h
  refine tG.mk k hx ?_
  cases e1 : fe ev c with
  | bad => rw [e1] at h; exact h
  | exc x c' =>
    rw [e1] at h
    exact fun cls dd H' s k1 r => h cls dd H' (k.sm s k1) (Gd.fzSm s) r
  | ok d c1 =>
    rw [e1] at h
    intro v H1 s k1 r
    have g1 := k.sm s k1
    refine ⟨G, ev, c1, g1, hx, ?_⟩
    have h : PostCs X.md G σ H ev W Q ((eCs cs ev c1).bind fun ss c => .ok (.val d :: ss) c) := h
    cases e2 : eCs cs ev c1 with
    | bad => rw [e2] at h; exact h
    | exc x c' =>
      rw [e2] at h
      exact fun cls dd H' g F r => h cls dd H' g ((Gd.fzSm s).trans F) r
    | ok ss c2 =>
      rw [e2] at h
      exact fun vs H' T g F q => h _ H' T g ((Gd.fzSm s).trans F) (.val (Rep.fz F (fun _ z => z) r) q)
theorem DCs.own (he : DF X xo e fe) (hr : DCs X xo es cs) (hs : starEach (e :: es) X.env = (false, eval e X.env) :: starEach es X.env := by rfl) : DCs X xo (e :: es) ((true, fe) :: cs) := fun W hW => by
  refine PAimp (pa_cons (he W hW) (hr W hW) hs) fun σ H Q h => ?_
  obtain ⟨G, ev, c, k, hx, h⟩ := h
  unfold eCs at h
  refine ⟨G, ev, c, k, hx, ?_⟩
  cases e1 : fe ev c with
  | bad => rw [e1] at h; exact h
  | exc x c' =>
    rw [e1] at h
    exact fun cls dd H' s k1 r => h cls dd H' (k.sm s k1) (Gd.fzSm s) r
  | ok d c1 =>
    rw [e1] at h
    intro a ho H1 s k1 hn ha r
    obtain ⟨g1, F1⟩ := k.push s k1 hn ha r
    refine ⟨G.tm ((a, d) :: G.Tm), ev, c1, g1, hx, ?_⟩
    have h : PostCs X.md G σ H ev W Q ((eCs cs ev c1).bind fun ss c => .ok (.own d :: ss) c) := h
    cases e2 : eCs cs ev c1 with
    | bad => rw [e2] at h; exact h
    | exc x c' =>
      rw [e2] at h
      intro cls dd H' g F r
      obtain ⟨g2, F2, _⟩ := Gk.drop (G := G) (T := G.Tm) g
      exact h cls dd H' g2 ((F1.trans F).trans F2) (r.fz F2 fun _ z => z)
    | ok ss c2 =>
      rw [e2] at h
      intro vs H' T g F q
      have e : ((a, d) :: T).reverse ++ G.Tm = T.reverse ++ (a, d) :: G.Tm := by simp
      refine h (.ref a :: vs) H' ((a, d) :: T) ?_ ?_ ?_
      · rw [e]; exact g
      · rw [e]; exact F1.trans F
      · rw [e]; exact .own q
def sPar (is : List Nat) (cs : List (Bool × E)) : SF := fun ev c => (eCs cs ev c).toS ev fun ss c => if is.length = ss.length ∧ (∀ i ∈ is, i < ev.length) then .nx (setAll is ss ev) c else .bad
theorem PostCs.toS {lo : Bool} {M : Md} {G : Gd} {σ : St} {H : Hp} {ev : Env} {c : Int} {W : WX} {D' : Ends} {is : List Nat} {r : R (List S)} (g : Gk M G σ H ev c)
    (h : PostS M lo G σ H ev W D' (r.toS ev fun ss c => if is.length = ss.length ∧ (∀ i ∈ is, i < ev.length) then .nx (setAll is ss ev) c else .bad)) : PostCs M G σ H ev W (fun vs H1 => vs.length = is.length ∧ D'.nx (setV is vs σ) H1) r := by
  cases r with
  | bad => exact h
  | exc x c' => exact fun cls dd H' g F r => h cls dd σ H' g F r
  | ok ss c' =>
    intro vs H' T g F q
    have h' : PostS M lo G σ H ev W D' (if is.length = ss.length ∧ (∀ i ∈ is, i < ev.length) then .nx (setAll is ss ev) c' else .bad) := h
    by_cases hl : is.length = ss.length ∧ (∀ i ∈ is, i < ev.length)
    · rw [if_pos hl] at h'
      obtain ⟨g2, F2⟩ := Gk.setAll g q hl.1 hl.2
      refine ⟨?_, h' _ _ g2 (F.trans F2)⟩
      have len : ∀ {T : List (Addr × D)} {vs : List V} {ss : List S}, Cvs M H' ((G.tm (T.reverse ++ G.Tm)).O σ ev) G.L T vs ss → vs.length = ss.length := fun {T vs ss} q => by
        generalize (G.tm (T.reverse ++ G.Tm)).O σ ev = O at q
        induction q with
        | nil => rfl
        | val _ _ ih => rw [List.length_cons, List.length_cons, ih]
        | own _ ih => rw [List.length_cons, List.length_cons, ih]
      rw [len q, hl.1]
    · rw [if_neg hl] at h'; exact h'.elim
variable {B : Blk} {lo : Bool} {pos : Pos}
theorem ScX.par2 (S : ScX X B) {i j : Nat} {x y : Str} {a b : Expr} {px py pt : Pos} {kt k2 pt2} (hx : B.tgt i x = true) (hy : B.tgt j y = true) (hlx : kL (B.sc.names.lookup x) = true) (hly : kL (B.sc.names.lookup y) = true) (hij : i ≠ j) (ha : DCs X xo [a, b] cs)
    (hw : swappedStores [.Tuple [.Name x px, .Name y py] kt pt] (.Tuple [a, b] k2 pt2) X.env = pure (some [x, y]))
    (hs : swapsWithSole [.Tuple [.Name x px, .Name y py] kt pt] (.Tuple [a, b] k2 pt2) pos.line X.env = pure false := by rfl) :
    DS X xo lo (.Assign [.Tuple [.Name x px, .Name y py] kt pt] (.Tuple [a, b] k2 pt2) pos) (sPar [i, j] cs) := fun W hW => by
  obtain ⟨x1, _, _⟩ := S.tgtN hx
  obtain ⟨y1, _, _⟩ := S.tgtN hy
  refine PSimp (ps_par S.calm S.nd x1 y1 hij (by rw [S.sc]; exact kL_ok hlx) (by rw [S.sc]; exact kL_ok hly) (ha W hW) hw hs) fun D' σ H h => ?_
  obtain ⟨G, ev, c, k, hx, h⟩ := h
  have q := PostCs.toS k h
  refine ⟨G, ev, c, k, hx, ?_⟩
  have conv : ∀ {vs : List V} {H1 : Hp}, (vs.length = 2 ∧ D'.nx (setV [i, j] vs σ) H1) → ∃ v w, vs = [v, w] ∧ D'.nx ((σ.set i (some v)).set j (some w)) H1 := fun {vs H1} z => by
    obtain ⟨z1, z2⟩ := z
    match vs, z1, z2 with
    | [v, w], _, z2 => exact ⟨v, w, rfl, z2⟩
  cases e1 : eCs cs ev c with
  | bad => rw [e1] at q; exact q
  | exc x c' => rw [e1] at q; exact q
  | ok ss c' => rw [e1] at q; exact fun vs H' T g F z => conv (q vs H' T g F z)
theorem ScX.par3 (S : ScX X B) {i j l : Nat} {x y z : Str} {a b d : Expr} {px py pz pt : Pos} {kt k2 pt2} (hx : B.tgt i x = true) (hy : B.tgt j y = true) (hz : B.tgt l z = true) (hlx : kL (B.sc.names.lookup x) = true) (hly : kL (B.sc.names.lookup y) = true) (hlz : kL (B.sc.names.lookup z) = true)
    (hij : i ≠ j) (hil : i ≠ l) (hjl : j ≠ l) (ha : DCs X xo [a, b, d] cs)
    (hw : swappedStores [.Tuple [.Name x px, .Name y py, .Name z pz] kt pt] (.Tuple [a, b, d] k2 pt2) X.env = pure (some [x, y, z]))
    (hs : swapsWithSole [.Tuple [.Name x px, .Name y py, .Name z pz] kt pt] (.Tuple [a, b, d] k2 pt2) pos.line X.env = pure false := by rfl) :
    DS X xo lo (.Assign [.Tuple [.Name x px, .Name y py, .Name z pz] kt pt] (.Tuple [a, b, d] k2 pt2) pos) (sPar [i, j, l] cs) := fun W hW => by
  obtain ⟨x1, _, _⟩ := S.tgtN hx
  obtain ⟨y1, _, _⟩ := S.tgtN hy
  obtain ⟨z1, _, _⟩ := S.tgtN hz
  refine PSimp (ps_par3 S.calm S.nd x1 y1 z1 hij hil hjl (by rw [S.sc]; exact kL_ok hlx) (by rw [S.sc]; exact kL_ok hly) (by rw [S.sc]; exact kL_ok hlz) (ha W hW) hw hs) fun D' σ H h => ?_
  obtain ⟨G, ev, c, k, hx, h⟩ := h
  have q := PostCs.toS k h
  refine ⟨G, ev, c, k, hx, ?_⟩
  have conv : ∀ {vs : List V} {H1 : Hp}, (vs.length = 3 ∧ D'.nx (setV [i, j, l] vs σ) H1) → ∃ u v w, vs = [u, v, w] ∧ D'.nx (((σ.set i (some u)).set j (some v)).set l (some w)) H1 := fun {vs H1} z => by
    obtain ⟨z1, z2⟩ := z
    match vs, z1, z2 with
    | [u, v, w], _, z2 => exact ⟨u, v, w, rfl, z2⟩
  cases e1 : eCs cs ev c with
  | bad => rw [e1] at q; exact q
  | exc x c' => rw [e1] at q; exact q
  | ok ss c' => rw [e1] at q; exact fun vs H' T g F z => conv (q vs H' T g F z)
/-- targets that are names, one after another -/
inductive Nms (X : Cx) : List Expr → List Nat → Prop
  | nil : Nms X [] []
  | cons {i : Nat} {x : Str} {p : Pos} {es : List Expr} {is : List Nat} : X.N[i]? = some x → L2.Loc X.env.scope x → (X.fn x = true ∨ X.env.scope.names.lookup x = some .local) →
      ((assignEach (.Name x p :: es) X.env).map (·.2) = assign (.Name x p) X.env :: (assignEach es X.env).map (·.2)) → Nms X es is → Nms X (.Name x p :: es) (i :: is)
theorem ScX.nms (S : ScX X B) {i : Nat} {x : Str} {p : Pos} {es : List Expr} {is : List Nat} (h : B.tgt i x = true) (r : Nms X es is) (hs : (assignEach (.Name x p :: es) X.env).map (·.2) = assign (.Name x p) X.env :: (assignEach es X.env).map (·.2) := by rfl) : Nms X (.Name x p :: es) (i :: is) :=
  let ⟨a, b, c⟩ := S.tgtN h; .cons a b c hs r
theorem pgs_nms (nd : X.N.Nodup) : ∀ {es : List Expr} {is : List Nat}, Nms X es is → PGs X es (fun vs σ H Q => vs.length = is.length ∧ Q (setV is vs σ) H)
  | _, _, .nil => ⟨fun pins s σ H vs us Q I r h => by
    obtain ⟨h1, h2⟩ := h
    match vs, h1, r, h2 with
    | [], _, r, h2 => exact pgs_nil.run pins s σ H [] us Q I r ⟨rfl, h2⟩⟩
  | _, _, .cons (i := i) (is := is) a b c hs r => ⟨fun pins s σ H vs us Q I rr h => by
    obtain ⟨h1, h2⟩ := h
    match vs, h1, rr, h2 with
    | v :: vs, h1, rr, h2 => exact (pgs_cons (pg_name nd a b c) (pgs_nms nd r) hs).run pins s σ H (v :: vs) us Q I rr ⟨v, vs, rfl, by simpa using h1, h2⟩⟩
theorem ScX.parN (S : ScX X B) {ts es : List Expr} {is : List Nat} {pt : Pos} {kt k2 pt2} (ht : Nms X ts is) (ha : DCs X xo es cs) (hz : is.length ≤ 1000 := by decide) (hn : (assignEach ts X.env).length = is.length := by rfl) (hst : (assignEach ts X.env).findIdx? (·.1) = none := by rfl)
    (hw : swappedStores [.Tuple ts kt pt] (.Tuple es k2 pt2) X.env = pure none)
    (hs : swapsWithSole [.Tuple ts kt pt] (.Tuple es k2 pt2) pos.line X.env = pure false := by rfl)
    (h1 : (assignEach [.Tuple ts kt pt] X.env).map (·.2) = [assign (.Tuple ts kt pt) X.env] := by rfl) :
    DS X xo lo (.Assign [.Tuple ts kt pt] (.Tuple es k2 pt2) pos) (sPar is cs) := fun W hW => by
  refine PSimp (ps_asg (pe_tup (ha W hW)) (pg_tup S.calm (pgs_nms S.nd ht) hn hst) hs hw h1) fun D' σ H h => ?_
  obtain ⟨G, ev, c, k, hx, h⟩ := h
  refine ⟨G, ev, c, k, hx, ?_⟩
  unfold sPar at h
  cases e1 : eCs cs ev c with
  | bad => rw [e1] at h; exact h
  | exc x c' => rw [e1] at h; exact fun cls dd H' g F r => h cls dd σ H' g F r
  | ok ss c' =>
    rw [e1] at h
    intro vs H' T g F z
    have h' : PostS X.md lo G σ H ev W D' (if is.length = ss.length ∧ (∀ i ∈ is, i < ev.length) then .nx (setAll is ss ev) c' else .bad) := h
    by_cases hl : is.length = ss.length ∧ (∀ i ∈ is, i < ev.length)
    · rw [if_pos hl] at h'
      have len : ∀ {O : Addr → Prop} {T : List (Addr × D)} {vs : List V} {ss : List DW.S}, Cvs X.md H' O G.L T vs ss → vs.length = ss.length := fun {O T vs ss} q => by
        induction q with
        | nil => rfl
        | val _ _ ih => rw [List.length_cons, List.length_cons, ih]
        | own _ ih => rw [List.length_cons, List.length_cons, ih]
      have hlen : vs.length = is.length := by rw [len z, hl.1]
      have hsz : sizeLine = 16777216 := sizeLine_eq
      refine ⟨?_, fun p np => ⟨p, vs, rfl, .of upd_same, hlen, hlen, ?_⟩⟩
      · omega
      · have s := same_updN (o := .tup vs) np
        have g' := g.same s
        have z' := z.fz (Gd.fzSm (.of_same s)) (fun _ q => q)
        obtain ⟨g2, F2⟩ := Gk.setAll g' z' hl.1 hl.2
        exact h' _ _ g2 ((F.trans (Gd.fzSm (.of_same s))).trans F2)
    · rw [if_neg hl] at h'; exact h'.elim
end
end DW

set_option Elab.async false
set_option linter.all false
set_option maxRecDepth 100000
set_option maxHeartbeats 4000000
/-! DW8: op=, own lists changed. -/
namespace DW
open PySem PySem.Spec L2

def dAddI : D → D → Option D
  | .int i, .int j => some (.int (i + j))
  | .str x, .str y => if x.length + y.length ≤ sizeLine then some (.str (x ++ y)) else none
  | _, _ => none
def dSubI : D → D → Option D
  | .int i, .int j => some (.int (i - j))
  | _, _ => none
def dMulI : D → D → Option D
  | .int i, .int j => if mulOk i j = true then some (.int (i * j)) else none
  | _, _ => none
section
variable {X : Cx} {xo : Xo} {lo : Bool} {B : Blk} {pos : Pos} {e : Expr} {fe : E} {x : Str}
theorem ipd_add : OpD X (inplaceOp .Add) dAddI := by
  intro pins s σ H x y v u Q I rx ry ⟨O, L, dx, dy, d, hO, hx, hy, e, q⟩
  unfold dAddI at e
  split at e
  · obtain rfl := hx.int_eq; obtain rfl := hy.int_eq; cases e
    exact iop_add pins s σ H _ _ v u Q I rx ry ⟨_, _, rfl, rfl, q _ _ (Same.refl _) (.int _)⟩
  · obtain rfl := hx.str_eq; obtain rfl := hy.str_eq
    split at e <;> cases e
    exact iop_add_str pins s σ H _ _ v u Q I rx ry ⟨_, _, rfl, rfl, by assumption, q _ _ (Same.refl _) (.str _)⟩
  · cases e
theorem ipd_sub : OpD X (inplaceOp .Sub) dSubI := by
  intro pins s σ H x y v u Q I rx ry ⟨O, L, dx, dy, d, hO, hx, hy, e, q⟩
  unfold dSubI at e
  split at e
  · obtain rfl := hx.int_eq; obtain rfl := hy.int_eq; cases e
    exact iop_sub pins s σ H _ _ v u Q I rx ry ⟨_, _, rfl, rfl, q _ _ (Same.refl _) (.int _)⟩
  · cases e
theorem ipd_mul : OpD X (inplaceOp .Mult) dMulI := by
  intro pins s σ H x y v u Q I rx ry ⟨O, L, dx, dy, d, hO, hx, hy, e, q⟩
  unfold dMulI at e
  split at e
  · obtain rfl := hx.int_eq; obtain rfl := hy.int_eq
    split at e <;> cases e
    exact iop_mulOk pins s σ H _ _ v u Q I rx ry ⟨_, _, rfl, rfl, by assumption, q _ _ (Same.refl _) (.int _)⟩
  · cases e
/-- name op= e -/
def sAug (i : Nat) (g : D → D → Option D) (e : E) : SF := fun ev c => match ev[i]? with
  | some (.val x) => (e ev c).toS ev fun y c => (R.of (g x y) c).toS ev fun z c => .nx (ev.set i (.val z)) c
  | _ => .bad
theorem ScX.aug (S : ScX X B) (i : Nat) {op : Operator} {g : D → D → Option D} {p : Pos} (h : B.tgt i x = true) (he : DB X xo e fe) (ho : OpD X (inplaceOp op) g) : DS X xo lo (.AugAssign (.Name x p) op e pos) (sAug i g fe) := fun W hW => by
  obtain ⟨a, b, c⟩ := S.tgtN h
  refine PSimp (ps_aug S.nd a b (he W hW) ho c) fun D' σ H h => ?_
  obtain ⟨G, ev, c, k, hx, h⟩ := h
  unfold sAug at h
  cases e1 : ev[i]? with
  | none => rw [e1] at h; exact h.elim
  | some z =>
    rw [e1] at h
    cases z with
    | val d =>
      obtain ⟨v, h1, r⟩ := k.val i d e1
      refine ⟨v, h1, tG.mk k hx (PostS.bind k h fun dy c1 y H1 s1 k1 g1 r1 h2 => ?_)⟩
      have h2 : PostS X.md lo G σ H1 ev W D' ((R.of (g d dy) c1).toS ev fun z c => .nx (ev.set i (.val z)) c) := h2
      cases e2 : g d dy with
      | none => rw [e2] at h2; exact h2.elim
      | some z =>
        rw [e2] at h2
        refine ⟨G.O σ ev, G.L, d, dy, z, fun a => g1.tr, .inl (r.sm s1), r1, e2, fun zv H2 sm rz => ?_⟩
        have g2 := g1.same sm
        have q := g2.setVal (i := i) rz
        exact h2 _ _ q.1 ((Gd.fzSm (.of_same sm)).trans q.2)
    | no => exact h.elim
    | own d => exact h.elim
    | ex z => exact h.elim
theorem pe_own {X : Cx} {B : Blk} (S : ScX X B) {i : Nat} {x : Str} {pos : Pos} (h : B.var i x = true) : PE X (.Name x pos) (tVar i) := by
  obtain ⟨a, b, hd⟩ := S.visN h
  unfold cDbg at hd
  simp only [Bool.and_eq_true, Bool.not_eq_true'] at hd
  exact pe_var a b hd.1.1 hd.1.2
/-- what an own list's slot holds -/
theorem Gk.lst {M : Md} {G : Gd} {σ : St} {H : Hp} {ev : Env} {c : Int} (k : Gk M G σ H ev c) {i : Nat} {xs : List D} (e : ev[i]? = some (.own (.lst xs))) :
    ∃ a vs, σ[i]? = some (some (.ref a)) ∧ H a = some (.lst vs) ∧ RepA M H (G.O σ ev) G.L vs xs := by
  obtain ⟨a, h1, _, ho, h2, r⟩ := k.own i _ e
  cases r with
  | lst r => exact ⟨a, _, h1, h2, r⟩
/-- xs.append(e) -/
def sApp (i : Nat) (e : E) : SF := fun ev c => match ev[i]? with
  | some (.own (.lst xs)) => (e ev c).toS ev fun d c => if xs.length < sizeLine then .nx (ev.set i (.own (.lst (xs ++ [d])))) c else .bad
  | _ => .bad
theorem ScX.app (S : ScX X B) (i : Nat) {p ap cp : Pos} (h : B.var i x = true) (he : DE X xo e fe)
    (hfew : ((backTo cp (starEach [e] X.env)).all (fun x => !x.1) && (backToKw cp (keywordEach [] X.env)).all (fun x => x.1.isSome)
      && decide (([e] : List Expr).length + ([] : List Keyword).length + (if ([] : List Keyword).isEmpty then 0 else 1) < 30)) = true := by rfl)
    (hline : (ap.endLine == cp.line) = true := by rfl) (hs : starEach [e] X.env = [(false, eval e X.env)] := by rfl) :
    DS X xo lo (.Expr (.Call (.Attribute (.Name x p) "append" ap) [e] [] cp) pos) (sApp i fe) := fun W hW => by
  refine PSimp (ps_expr (pe_bm PySem.F.plainAttrs_list PySem.F.slot_list_append PySem.F.type_list_append mt_append (pe_own S h) (pa_cons (he W hW) pa_nil hs) rfl hfew hline hs) rfl) fun D' σ H h => ?_
  obtain ⟨G, ev, c, k, hx, h⟩ := h
  unfold sApp at h
  split at h
  · rename_i xs e1
    obtain ⟨a, vs, h1, h2, r⟩ := k.lst e1
    refine ⟨_, h1, .inl ⟨rfl, vs, .of h2⟩, tG.mk k hx (PostS.bind k h fun dy c1 y H1 s1 k1 g1 r1 h3 => ?_)⟩
    by_cases hl : xs.length < sizeLine
    · rw [if_pos hl] at h3
      obtain ⟨a', vs', q1, q2, q3⟩ := g1.lst e1
      rw [h1] at q1; cases q1
      have q := g1.updOwn (ho := .lst (vs' ++ [y])) e1 h1 (.lst (q3.append (.cons r1 .nil)))
      exact ⟨a, vs', y, rfl, rfl, q2, by rw [RepA.length q3]; exact hl, h3 _ _ q.1 q.2⟩
    · rw [if_neg hl] at h3; exact h3.elim
  · exact h.elim
def putR (xs : List D) : D → D → Option (List D)
  | .int k, d => (ixN xs.length k).map fun n => xs.set n d
  | _, _ => none
/-- xs[j] = e -/
def sPut (i : Nat) (j e : E) : SF := fun ev c => (e ev c).toS ev fun d c => match ev[i]? with
  | some (.own (.lst xs)) => (j ev c).toS ev fun k c => match putR xs k d with
    | some ys => .nx (ev.set i (.own (.lst ys))) c
    | none => .bad
  | _ => .bad
theorem put_post {M : Md} {G : Gd} {σ : St} {H : Hp} {ev : Env} {c : Int} {W : WX} {D' : Ends} {i : Nat} {xs : List D} {k d : D} {kv v : V} {a : Addr} (g : Gk M G σ H ev c) (e1 : ev[i]? = some (.own (.lst xs))) (h1 : σ[i]? = some (some (.ref a)))
    (rk : RepB M H (G.O σ ev) G.L kv k) (r : Rep M H (G.O σ ev) G.L v d)
    (h : PostS M lo G σ H ev W D' (match putR xs k d with | some ys => .nx (ev.set i (.own (.lst ys))) c | none => .bad)) :
    rSetL (.ref a) kv v H fun H3 => D'.nx σ H3 := by
  obtain ⟨a', vs, q1, q2, q3⟩ := g.lst e1
  rw [h1] at q1; cases q1
  cases e : putR xs k d with
  | none => rw [e] at h; exact h.elim
  | some ys =>
    rw [e] at h
    unfold putR at e
    split at e
    · rename_i k
      obtain rfl := rk.int_eq
      cases e2 : ixN xs.length k with
      | none => rw [e2] at e; cases e
      | some n =>
        rw [e2] at e
        cases e
        have q := g.updOwn (ho := .lst (vs.set n v)) e1 h1 (.lst (q3.set r n))
        exact ⟨a, vs, k, n, rfl, rfl, q2, by rw [RepA.length q3]; exact e2, h _ _ q.1 q.2⟩
    · cases e
theorem ScX.put (S : ScX X B) (i : Nat) {je : Expr} {fj : E} {p sp : Pos} (h : B.var i x = true) (hj : DB X xo je fj) (he : DE X xo e fe)
    (hs : swapsWithSole [.Subscript (.Name x p) je sp] e pos.line X.env = pure false := by rfl) (hw : swappedStores [.Subscript (.Name x p) je sp] e X.env = pure none := by rfl)
    (h1 : (assignEach [.Subscript (.Name x p) je sp] X.env).map (·.2) = [assign (.Subscript (.Name x p) je sp) X.env] := by rfl)
    (ha : ∀ v, assign (.Subscript (.Name x p) je sp) X.env v = (do
      let ov ← holding [v] (eval (.Name x p) X.env)
      let iv ← holding [v, ov] (eval je X.env)
      standAt sp
      holding [v, ov, iv] (setItem ov iv v)
      release [v, ov, iv] []) := by intro _; rfl) : DS X xo lo (.Assign [.Subscript (.Name x p) je sp] e pos) (sPut i fj fe) := fun W hW => by
  refine PSimp (ps_asg (he W hW) (pg_sub (pe_own S h) (hj W hW) set_list ha) hs hw h1) fun D' σ H h => ?_
  obtain ⟨G, ev, c, k, hx, h⟩ := h
  unfold sPut at h
  refine tG.mk k hx (PostS.bind k h fun d c1 v H1 s1 k1 g1 r1 h2 => ?_)
  split at h2
  · rename_i xs e1
    obtain ⟨a, vs, q1, q2, q3⟩ := g1.lst e1
    exact ⟨_, q1, tG.mk g1 hx (PostS.bind g1 h2 fun kd c2 kv H2 s2 k2 g2 r2 h3 => put_post g2 e1 q1 r2 (Rep.sm s2 r1) h3)⟩
  · exact h2.elim
theorem get_list : PGet X (rIxL X.K) := by
  intro pins s σ H x y v u Q I rx ry h
  obtain ⟨p, xs, i, z, rfl, rfl, hq, he, q⟩ := h
  cases rx
  obtain ⟨t, rfl⟩ := ry
  obtain ⟨its, r, pl, hz⟩ := I.list hq
  obtain ⟨j, h1, h2, h3, h4, h5⟩ := atI_get he
  obtain ⟨w, ew, rw'⟩ := r.get h2
  have hl := r.length
  have hn := line63
  have fin : EP X pins σ Q w s := ⟨z, H, I, rw', q⟩
  by_cases h0 : 0 ≤ i
  · have hj : i.toNat = j := by
      rw [seqIndex_of h0 h5] at h1
      exact Option.some.inj h1
    exact wpAny_getItem_list pl.isList h0 (by omega) (by rw [hj]; simpa using ew) fin
  · have hj : (i + (its.toArray.size : Int)).toNat = j := by
      rw [seqIndex_neg (by omega) h4] at h1
      rw [List.size_toArray, ← hl]
      exact Option.some.inj h1
    exact wpAny_getItem_list_neg pl.isList (by omega) (by rw [List.size_toArray] <;> omega) (by omega) (by rw [hj]; simpa using ew) fin
/-- xs[j] op= e -/
def sAugIx (i : Nat) (j : E) (g : D → D → Option D) (e : E) : SF := fun ev c => match ev[i]? with
  | some (.own (.lst xs)) => (j ev c).toS ev fun k c => match k with
    | .int k => (match ixN xs.length k with
      | some n => (match xs[n]? with
        | some old => (e ev c).toS ev fun d c => (R.of (g old d) c).toS ev fun z c => .nx (ev.set i (.own (.lst (xs.set n z)))) c
        | none => .bad)
      | none => .bad)
    | _ => .bad
  | _ => .bad
theorem ScX.augIx (S : ScX X B) (i : Nat) {je : Expr} {fj : E} {op : Operator} {g : D → D → Option D} {p sp : Pos} (h : B.var i x = true) (hj : DB X xo je fj) (he : DB X xo e fe) (ho : OpD X (inplaceOp op) g)
    (ha : ∀ ov iv new, augStore je ov iv new = (do holding [new, ov, iv] (setItem ov iv new); release [new, ov, iv] []; pure .next) := by intros; rfl) :
    DS X xo lo (.AugAssign (.Subscript (.Name x p) je sp) op e pos) (sAugIx i fj g fe) := fun W hW => by
  refine PSimp (ps_augS (pe_own S h) (hj W hW) get_list (he W hW) ho set_list ha) fun D' σ H h => ?_
  obtain ⟨G, ev, c, k, hx, h⟩ := h
  unfold sAugIx at h
  split at h
  · rename_i xs e1
    obtain ⟨a, vs, q1, q2, q3⟩ := k.lst e1
    refine ⟨_, q1, tG.mk k hx (PostS.bind k h fun kd c2 kv H2 s2 k2 g2 r2 h3 => ?_)⟩
    split at h3
    · rename_i kk
      obtain rfl := RepB.int_eq r2
      obtain ⟨a', vs2, z1, z2, z3⟩ := g2.lst e1
      rw [q1] at z1; cases z1
      cases e2 : ixN xs.length kk with
      | none => rw [e2] at h3; exact h3.elim
      | some n =>
        rw [e2] at h3
        dsimp only at h3
        cases e3 : xs[n]? with
        | none => rw [e3] at h3; exact h3.elim
        | some old =>
          rw [e3] at h3
          obtain ⟨ov, o1, o2⟩ := z3.get e3
          refine ⟨a, vs2, kk, ov, rfl, rfl, .of z2, ?_, tG.mk g2 hx (PostS.bind g2 h3 fun dy c3 y H3 s3 k3 g3 r3 h4 => ?_)⟩
          · unfold L2.atI
            rw [RepA.length z3, e2]
            exact o1
          · have h4 : PostS X.md lo G σ H3 ev W D' ((R.of (g old dy) c3).toS ev fun z c => .nx (ev.set i (.own (.lst (xs.set n z)))) c) := h4
            cases e4 : g old dy with
            | none => rw [e4] at h4; exact h4.elim
            | some z =>
              rw [e4] at h4
              refine ⟨G.O σ ev, G.L, old, dy, z, fun a => g3.tr, .inl (o2.sm s3), r3, e4, fun zv H4 sm rz => ?_⟩
              have g4 := g3.same sm
              refine put_post (lo := lo) (W := W) (k := .int kk) (d := z) g4 e1 q1 (.inl (.int kk)) rz ?_
              have ep : putR xs (.int kk) z = some (xs.set n z) := by
                show (ixN xs.length kk).map _ = _
                rw [e2] <;> rfl
              rw [ep]
              exact PostS.from h4 (Gd.fzSm (.of_same sm))
    · exact h3.elim
  · exact h.elim
/-- xs += ys -/
def sExt (i : Nat) (e : E) : SF := fun ev c => match ev[i]? with
  | some (.own (.lst xs)) => (e ev c).toS ev fun d c => match d with
    | .lst ys => if xs.length + ys.length ≤ sizeLine then .nx (ev.set i (.own (.lst (xs ++ ys)))) c else .bad
    | _ => .bad
  | _ => .bad
theorem ScX.ext (S : ScX X B) (i : Nat) {p : Pos} (h : B.tgt i x = true) (he : DB X xo e fe) : DS X xo lo (.AugAssign (.Name x p) .Add e pos) (sExt i fe) := fun W hW => by
  obtain ⟨a, b, c⟩ := S.tgtN h
  refine PSimp (ps_aug S.nd a b (he W hW) iop_ext c) fun D' σ H h => ?_
  obtain ⟨G, ev, c, k, hx, h⟩ := h
  unfold sExt at h
  split at h
  · rename_i xs e1
    obtain ⟨a, vs, q1, q2, q3⟩ := k.lst e1
    refine ⟨_, q1, tG.mk k hx (PostS.bind k h fun dy c1 y H1 s1 k1 g1 r1 h2 => ?_)⟩
    obtain ⟨a', vs1, z1, z2, z3⟩ := g1.lst e1
    rw [q1] at z1; cases z1
    split at h2
    · rename_i ys
      obtain ⟨b, ws, rfl, b1, b2⟩ := RepB.lst_eq r1
      by_cases hl : xs.length + ys.length ≤ sizeLine
      · rw [if_pos hl] at h2
        have q := g1.updOwn (ho := .lst (vs1 ++ ws)) e1 q1 (.lst (z3.append b2))
        refine ⟨a, b, vs1, ws, rfl, rfl, z2, b1, by rw [RepA.length z3, RepA.length b2]; exact hl, ?_⟩
        show D'.nx (σ.set i (some (.ref a))) _
        rw [set_self q1]
        exact h2 _ _ q.1 q.2
      · rw [if_neg hl] at h2; exact h2.elim
    · exact h2.elim
  · exact h.elim
/-- target = xs.pop() -/
def sPopTo (i : Nat) (p : Pt) : SF := fun ev c => match ev[i]? with
  | some (.own (.lst xs)) => (match xs[xs.length - 1]? with
    | some d => (match bindP p d (ev.set i (.own (.lst xs.dropLast))) with
      | some ev' => .nx ev' c
      | none => .bad)
    | none => .bad)
  | _ => .bad
theorem RepA.dropLast {M : Md} {H : Hp} {O : Addr → Prop} {L : Option Addr} {vs : List V} {ds : List D} (h : RepA M H O L vs ds) : RepA M H O L vs.dropLast ds.dropLast := by
  rw [List.dropLast_eq_take, List.dropLast_eq_take, RepA.length h]
  exact h.take _
theorem ScX.popTo (S : ScX X B) (i : Nat) {tg : Expr} {pt : Pt} {p ap cp : Pos} (h : B.var i x = true) (hg : DG X tg pt) (hline : (ap.endLine == cp.line) = true := by rfl)
    (hs : swapsWithSole [tg] (.Call (.Attribute (.Name x p) "pop" ap) [] [] cp) pos.line X.env = pure false := by rfl) (hw : swappedStores [tg] (.Call (.Attribute (.Name x p) "pop" ap) [] [] cp) X.env = pure none := by rfl)
    (h1 : (assignEach [tg] X.env).map (·.2) = [assign tg X.env] := by rfl) : DS X xo lo (.Assign [tg] (.Call (.Attribute (.Name x p) "pop" ap) [] [] cp) pos) (sPopTo i pt) := fun W hW => by
  refine PSimp (ps_asg (pe_bm0 PySem.F.plainAttrs_list PySem.F.slot_list_pop PySem.F.type_list_pop mt_pop (pe_own S h) rfl hline) hg hs hw h1) fun D' σ H h => ?_
  obtain ⟨G, ev, c, k, hx, h⟩ := h
  unfold sPopTo at h
  split at h
  · rename_i xs e1
    obtain ⟨a, vs, q1, q2, q3⟩ := k.lst e1
    cases e2 : xs[xs.length - 1]? with
    | none => rw [e2] at h; exact h.elim
    | some d =>
      rw [e2] at h
      dsimp only at h
      obtain ⟨v, v1, v2⟩ := q3.get e2
      have q := k.updOwn (ho := .lst vs.dropLast) e1 q1 (.lst q3.dropLast)
      refine ⟨_, q1, .inl ⟨rfl, vs, .of q2⟩, a, vs, v, rfl, rfl, q2, by rw [RepA.length q3]; exact v1, ?_⟩
      exact bind_post q.1 (v2.fz q.2 fun _ z => z) (PostS.from h q.2)
  · exact h.elim
end
end DW

set_option Elab.async false
set_option linter.all false
set_option maxRecDepth 100000
set_option maxHeartbeats 2000000
/-! DWE: enumerate of a tuple. -/
namespace DW
open PySem
open Sem (wp)
open AutoSeq1 (wpAny_loadPart')
theorem meets_enumerate_newT (l : Addr) (items : Array Value) (n : Nat) (dct : Option Addr) (sl : Array (Option Value)) :
    Meets (Builtin.«enumerate.__new__» ⟨[.type "enumerate", .ref l], []⟩) (fun _ R s => s.heap.get? l = some { cls := .type "tuple", dict := dct, data := .seq items n, slots := sl } ∧
      R (.ok (.ret (.ref (s.heap.push { cls := .type "tuple_iterator", data := .fields #[.ref l, .int 0 0] }).objs.size)))
        { s with heap := (s.heap.push { cls := .type "tuple_iterator", data := .fields #[.ref l, .int 0 0] }).push { cls := .type "enumerate", data := .fields #[.none, .bool false, .ref s.heap.objs.size, rawInt 0, .none, .none] } }) :=
  .of_wp fun prog w A R s h => by
    obtain ⟨hp, g, d, tk, os⟩ := s; obtain ⟨hl, h⟩ := h
    have hsub := sub_enumerate
    have hL : Heap.IsTuple (Shared.heap ⟨hp, g, d, tk, os⟩) l items := ⟨_, hl, rfl, n, rfl⟩
    wp_walk using wpAny_loadPart' hl
    refine wpAny_stack_any fun st => wpAny_pure ?_
    split
    · rename_i c _ _ _ _ _
      cases (c == Value.type "enumerate")
      · wp_walk using wpAny_loadPart' hl, wpAny_pyIter_tuple hL
        exact ⟨_, rfl, h⟩
      · wp_walk using wpAny_loadPart' hl, wpAny_pyIter_tuple hL
        exact ⟨_, rfl, h⟩
    · wp_walk using wpAny_loadPart' hl, wpAny_pyIter_tuple hL
      exact ⟨_, rfl, h⟩
section
variable {prog : Program} {w : World} {A : Around} {E : Value → Shared → Prop} {s : Shared}
theorem call_enumerate_tuple {l : Addr} {items : Array Value} {Q : Value → Shared → Prop} (hL : s.heap.IsTuple l items)
    (h : ∀ h', IsEnum h' (s.heap.objs.size + 1) s.heap.objs.size 0 .none → h'.IsTupleIter s.heap.objs.size l 0 → h'.objs.size = s.heap.objs.size + 2 →
      (∀ b o, s.heap.get? b = some o → h'.get? b = some o) → Q (.ref (s.heap.objs.size + 1)) { s with heap := h' }) :
    wpAny (model prog w) A (call (.type "enumerate") [.ref l]) Q E s := by
  obtain ⟨⟨c, dct, dt, sl⟩, hl, hc, n, hd⟩ := hL
  replace hc : c = .type "tuple" := hc
  replace hd : dt = .seq items n := hd
  subst hc hd
  refine callType_new F.called_enumerate (by decide) (F.typeCall_enumerate_1 _) (F.newCall_enumerate_1 _) (fun obj => F.args_object_init_2 obj _) F.entry_enumerate_new
    (meets_enumerate_newT l items n dct sl) ⟨hl, ?_⟩
  have hz : (s.heap.push { cls := .type "tuple_iterator", data := .fields #[.ref l, .int 0 0] }).objs.size = s.heap.objs.size + 1 := Heap.size_push ..
  show _ ∧ _
  rw [hz]
  have he : IsEnum ((s.heap.push { cls := .type "tuple_iterator", data := .fields #[.ref l, .int 0 0] }).push
      { cls := .type "enumerate", data := .fields #[.none, .bool false, .ref s.heap.objs.size, rawInt 0, .none, .none] }) (s.heap.objs.size + 1) s.heap.objs.size 0 .none := by
    have := Heap.get?_push_size (s.heap.push { cls := .type "tuple_iterator", data := .fields #[.ref l, .int 0 0] })
      (o := { cls := .type "enumerate", data := .fields #[.none, .bool false, .ref s.heap.objs.size, rawInt 0, .none, .none] }) rfl
    rw [hz] at this; exact this
  refine ⟨⟨_, he, rfl⟩, h _ he ⟨_, Heap.get?_push_of_some _ (Heap.get?_push_size _ rfl), rfl, rfl⟩ (by rw [Heap.size_push, hz]) fun b o x => Heap.get?_push_of_some _ (Heap.get?_push_of_some _ x)⟩
end
end DW

set_option Elab.async false
set_option linter.all false
set_option maxRecDepth 100000
set_option maxHeartbeats 4000000
/-! DW9: what loops walk; for, while. -/
namespace DW
open PySem PySem.Spec L2

/-! ### enumerate of a tuple -/
def IteT (K : PySem.W.Frag) (a : Addr) : It :=
  ⟨fun i H => ∃ (xs : List V) (x : V), SqT K H a xs ∧ xs[i]? = some x, fun i H v H' => ∃ T x, v = .ref T ∧ H T = none ∧ H' = upd H T (.tup [.int (i : Nat), x]) ∧ ∀ xs, SqT K H a xs → xs[i]? = some x, fun i H => ∃ xs : List V, SqT K H a xs ∧ xs.length = i⟩
theorem turn_enumT {P : Program} {w : World} {K : PySem.W.Frag} {elts : List Expr} {kk : Nat} {tpos : Pos} (a e it : Addr) :
    Turn P w K (.Tuple elts kk tpos) (IteT K a) [e, it] e (fun i h => (∃ old, IsEnum h e it ((i : Nat) : Int) old) ∧ h.IsTupleIter it a i ∧ e ≠ it ∧ a ≠ it ∧ a ≠ e) where
  mem := by simp
  obj := fun i h st b hb => by
    obtain ⟨⟨old, he⟩, ⟨o, ho, hc, hd⟩, _⟩ := st
    have e' : b = e ∨ b = it := by simpa using hb
    rcases e' with z | z
    · rw [z]; exact ⟨_, he, fun v q => nomatch q⟩
    · rw [z]; exact ⟨o, ho, fun v q => by rw [hd] at q; cases q⟩
  keep := fun i h h' st k => let ⟨⟨old, he⟩, hi, hne⟩ := st; ⟨⟨old, k e (by simp) _ he⟩, hi.at fun o q => k it (by simp) o q, hne⟩
  item := by
    intro X hP hw hK hc i pins s σ H E I hf st hg
    subst hP hw hK
    obtain ⟨⟨old, he⟩, hit, hne, hai, hae⟩ := st
    obtain ⟨xs, x, hq, hx⟩ := hg
    obtain ⟨its, rv, p, hz⟩ := I.tuple hq
    obtain ⟨u, hu, ru⟩ := rv.get hx
    have hel : e < s.heap.objs.size := Heap.lt_size he
    have hil : it < s.heap.objs.size := by obtain ⟨_, q, _⟩ := hit; exact Heap.lt_size q
    have hli : i < its.toArray.size := by
      have := (List.getElem?_eq_some_iff.mp hu).1
      simpa using this
    have Dr := PySem.Draws.tuple (prog := X.prog) (w := X.w) (A := X.A.in1) (show X.A.in1.handled = none from I.ok.hd hc) it a hai its.toArray
    refine wpAny_pyNext_enum_itemD Dr he ⟨hit, p⟩ hli hne (by simp; exact ⟨hne, fun z => hae z.symm⟩) fun y h' tk hy ho hit' hT hsz hk => ?_
    have hyu : y = u := by
      have : its.toArray[i]? = some y := hy
      rw [List.getElem?_toArray, hu] at this
      exact (Option.some.inj this).symm
    subst hyu
    refine ⟨_, rfl, wpAny_letOwnedTupleGo_enum (s := { s with heap := h', toks := tk + 1 }) ho fun h'' he' sb => ?_⟩
    have hT2 : h''.get? s.heap.objs.size = some { cls := .type "tuple", data := .seq #[.int i tk, y] } := (sb.2 _ (Nat.ne_of_gt hel)).trans hT
    have new : ObjOk X.prog X.w (upd H s.heap.objs.size (.tup [.int (i : Nat), x])) h'' s.heap.objs.size (.tup [.int (i : Nat), x]) :=
      ⟨by show 2 ≤ sizeLine; decide, [.int i tk, y], .cons ⟨_, rfl⟩ (.cons ru .nil), ⟨_, hT2, rfl, _, rfl⟩⟩
    have I1 : L2.Inv X pins σ (upd H s.heap.objs.size (.tup [.int (i : Nat), x])) { s with heap := h'', toks := tk + 1 } :=
      I.turnedNew (ch := [e, it]) (fun b ob hb q => (sb.2 b (fun z => hb (by simp [z]))).trans (hk b ob (fun z => hb (by simp [z])) (fun z => hb (by simp [z])) q)) hf (Nat.le_refl _) new
    refine ⟨.ref s.heap.objs.size, _, I1, rfl, ⟨_, x, rfl, I.hok.fresh (Nat.le_refl _), rfl, fun ys hy => by rw [I.tuple_inj hy hq]; exact hx⟩, ⟨⟨y, ?_⟩, hit'.1.at fun o q => (sb.2 it (Ne.symm hne)).trans q, hne, hai, hae⟩, fun b hb => ?_⟩
    · have e1 : ((i + 1 : Nat) : Int) = (i : Int) + 1 := by omega
      rw [e1]; exact he'
    · have hb' : b < s.heap.objs.size := by
        have e' : b = e ∨ b = it := by simpa using hb
        rcases e' with z | z
        · rw [z]; exact hel
        · rw [z]; exact hil
      rw [upd_ne (Nat.ne_of_lt hb')]
      exact (hf b hb).1
  done := by
    intro X hP hw hK hc i pins s σ H E I hf st hg
    subst hP hw hK
    obtain ⟨⟨old, he⟩, hit, hne, hai, hae⟩ := st
    obtain ⟨xs, hq, hx⟩ := hg
    obtain ⟨its, rv, p, hz⟩ := I.tuple hq
    obtain ⟨f0, f1, f2, f3, f4, f5⟩ := hf it (by simp)
    have hl := rv.length
    have Dr := PySem.Draws.tuple (prog := X.prog) (w := X.w) (A := X.A.in1) (show X.A.in1.handled = none from I.ok.hd hc) it a hai its.toArray
    have hi : i = its.toArray.size := by simp; omega
    exact wpAny_pyNext_enum_endD Dr he ⟨by rw [← hi]; exact hit, p⟩ fun h' eb => ⟨rfl, I.turned (t' := s.toks) (fun b o hb q => eb b o hb q) f0 f1 f3 f4 f5⟩
  self := fun A i s Q E st h => let ⟨⟨_, he⟩, _⟩ := st; wpAny_pyIter_enum he h
def iEnumA (K : PySem.W.Frag) (ta : TA) : TI := fun σ H R => ta σ H fun vs H1 => ∃ a xs, vs = [.ref a] ∧ ((SqL K H1 a xs ∧ R (Ite K a) H1) ∨ (SqT K H1 a xs ∧ R (IteT K a) H1))
theorem pi_enumA {X : Cx} {e : Expr} {ta : TA} {p pos tpos : Pos} {elts : List Expr} {kk : Nat} (hg : Gl X "enumerate") (hm : X.mg "enumerate" = none) (ha : PA X [e] ta) (hs : starEach [e] X.env = [(false, eval e X.env)] := by rfl) :
    PI X (.Tuple elts kk tpos) (.Call (.Name "enumerate" p) [e] [] pos) (iEnumA X.K ta) := by
  refine ⟨fun pins s σ H R I h => ?_⟩
  refine PyProof.Rows.Call_ (ld_blt I hg hm PyProof.Rows.boot_enumerate (PyProof.Rows.callWith_type1 (thn (ha.run pos pins s σ H _ I h) fun us s1 ⟨vs, H1, I1, r1, q1⟩ => ?_) hs rfl))
  obtain ⟨a, xs, ex, q1⟩ := q1
  subst ex
  cases r1 with
  | cons r rr =>
    cases rr
    cases r
    have fr : ∀ b ∈ [s1.heap.objs.size + 1, s1.heap.objs.size], FpOk X pins H1 b := fun b hb => by
      have e' : b = s1.heap.objs.size + 1 ∨ b = s1.heap.objs.size := by simpa using hb
      have hle : s1.heap.objs.size ≤ b := by
        rcases e' with z | z
        · rw [z]; exact Nat.le_add_right _ _
        · rw [z]; exact Nat.le_refl _
      exact I1.fpOk hle (I1.hok.fresh hle)
    rcases q1 with ⟨hq, q⟩ | ⟨hq, q⟩
    · obtain ⟨its, rv, p', hz⟩ := I1.list hq
      refine call_enumerate_list p'.isList fun h' he hit hsz hk => wpAny_pyIter_enum he ?_
      have I2 : L2.Inv X pins σ H1 { s1 with heap := h' } := I1.kept (t' := s1.toks) hk
      exact ⟨s1.heap.objs.size + 1, [s1.heap.objs.size + 1, s1.heap.objs.size], _, _, H1, rfl, I2, turn_enum a (s1.heap.objs.size + 1) s1.heap.objs.size, ⟨⟨.none, he⟩, hit, Nat.succ_ne_self _⟩, fr, q⟩
    · obtain ⟨its, rv, p', hz⟩ := I1.tuple hq
      have hlt : a < s1.heap.objs.size := by obtain ⟨o, ho, _⟩ := id p'; exact Heap.lt_size ho
      refine call_enumerate_tuple (show s1.heap.IsTuple a its.toArray from p') fun h' he hit hsz hk => wpAny_pyIter_enum he ?_
      have I2 : L2.Inv X pins σ H1 { s1 with heap := h' } := I1.kept (t' := s1.toks) hk
      exact ⟨s1.heap.objs.size + 1, [s1.heap.objs.size + 1, s1.heap.objs.size], _, _, H1, rfl, I2, turn_enumT a (s1.heap.objs.size + 1) s1.heap.objs.size, ⟨⟨.none, he⟩, hit, Nat.succ_ne_self _, Nat.ne_of_lt hlt, Nat.ne_of_lt (Nat.lt_succ_of_lt hlt)⟩, fr, q⟩

/-! ### iterations -/
/-- the items that come, while rest holds -/
structure Yl (M : Md) (L : Option Addr) (rest : Hp → (Addr → Prop) → Prop) (J : It) (ds : List D) : Prop where
  go : ∀ i H O, rest H O → i < ds.length → J.go i H
  yld : ∀ i H O d x H', rest H O → ds[i]? = some d → J.yld i H x H' → Same H H' ∧ Rep M H' O L x d
  stop : ∀ H O, rest H O → J.stop ds.length H
/-- while a statement's block runs -/
def rstS (O : Addr → Prop) (H : Hp) : Hp → (Addr → Prop) → Prop := fun H' O' => Fz O H O' H' ∧ ∀ a, O' a → H' a ≠ none
/-- while a comprehension runs -/
def rstC (O : Addr → Prop) (L : Option Addr) (H : Hp) : Hp → (Addr → Prop) → Prop := fun H' O' => (Fz O H O' H' ∧ ∀ a, O' a → H' a ≠ none) ∧ Sm L H H'
abbrev rYs (M : Md) : Rl (List D) It := fun O L H J ds => Yl M L (rstS O H) J ds
abbrev rYc (M : Md) : Rl (List D) It := fun O L H J ds => Yl M L (rstC O L H) J ds
theorem rYs.c {M : Md} {O : Addr → Prop} {L : Option Addr} {H : Hp} {J : It} {ds : List D} (y : rYs M O L H J ds) : rYc M O L H J ds :=
  ⟨fun i H' O' r => y.go i H' O' r.1, fun i H' O' d x H2 r => y.yld i H' O' d x H2 r.1, fun H' O' r => y.stop H' O' r.1⟩
theorem PIimp {X : Cx} {tg e : Expr} {t t' : TI} (h : PI X tg e t) (i : ∀ σ H Q, t' σ H Q → t σ H Q) : PI X tg e t' := ⟨fun pins s σ H R I q => h.run pins s σ H R I (i _ _ _ q)⟩
/-- what a for statement walks -/
def DI (X : Cx) (xo : Xo) (tg e : Expr) (f : EL) : Prop := ∀ W, Takes X W → PI X tg e (tG X.md xo (rYs X.md) f W)
/-- what a comprehension walks -/
def DIc (X : Cx) (xo : Xo) (tg e : Expr) (f : EL) : Prop := ∀ W, Takes X W → PI X tg e (tG X.md xo (rYc X.md) f W)
theorem DI.c {X : Cx} {xo : Xo} {tg e : Expr} {f : EL} (h : DI X xo tg e f) : DIc X xo tg e f := fun W hW => by
  refine PIimp (h W hW) fun σ H Q h => ?_
  obtain ⟨G, ev, c, k, hx, h⟩ := h
  exact ⟨G, ev, c, k, hx, h.mono fun _ _ _ r => rYs.c r⟩
section
variable {M : Md} {O O' : Addr → Prop} {L : Option Addr} {H H' : Hp} {a b : Addr} {vs ws : List V} {ds es : List D}
def itInts (lo : Int) : Nat → List D
  | 0 => []
  | n + 1 => .int lo :: itInts (lo + 1) n
theorem itInts_len {lo : Int} : ∀ {n : Nat}, (itInts lo n).length = n
  | 0 => rfl
  | n + 1 => by unfold itInts; rw [List.length_cons, itInts_len]
theorem itInts_get : ∀ {n i : Nat} {lo : Int} {d : D}, (itInts lo n)[i]? = some d → d = .int (lo + i)
  | 0, i, lo, d, h => by simp [itInts] at h
  | n + 1, 0, lo, d, h => by simp [itInts] at h; simp [h]
  | n + 1, i + 1, lo, d, h => by
    have h : (itInts (lo + 1) n)[i]? = some d := by simpa [itInts] using h
    rw [itInts_get h]
    congr 1
    omega
theorem yl_range {rest : Hp → (Addr → Prop) → Prop} {lo : Int} {n : Nat} : Yl M L rest (Itr lo n) (itInts lo n) where
  go := fun i H O r h => by rw [itInts_len] at h; exact h
  yld := fun i H O d x H' r h y => by
    obtain ⟨rfl, rfl⟩ := y
    rw [itInts_get h]
    exact ⟨Same.refl _, .int _⟩
  stop := fun H O r => by rw [itInts_len]; exact Nat.le_refl _
/-- a list whose content stays -/
theorem yl_list {rest : Hp → (Addr → Prop) → Prop} (h : ∀ H O, rest H O → ∃ vs, H a = some (.lst vs) ∧ RepA M H O L vs ds) : Yl M L rest (Itl M.K a) ds where
  go := fun i H O r hi => by
    obtain ⟨vs, h1, h2⟩ := h H O r
    rw [← RepA.length h2] at hi
    exact ⟨vs, vs[i], .of h1, by simp [hi]⟩
  yld := fun i H O d x H' r hd y => by
    obtain ⟨vs, h1, h2⟩ := h H O r
    obtain ⟨rfl, y⟩ := y
    obtain ⟨v, v1, v2⟩ := h2.get hd
    have := y vs (.of h1)
    rw [v1] at this; cases this
    exact ⟨Same.refl _, v2⟩
  stop := fun H O r => by
    obtain ⟨vs, h1, h2⟩ := h H O r
    exact ⟨vs, .of h1, by rw [RepA.length h2]; exact Nat.le_refl _⟩
theorem yl_tup {rest : Hp → (Addr → Prop) → Prop} (h : ∀ H O, rest H O → ∃ vs, SqT M.K H a vs ∧ RepA M H O L vs ds) : Yl M L rest (Itt M.K a) ds where
  go := fun i H O r hi => by
    obtain ⟨vs, h1, h2⟩ := h H O r
    rw [← RepA.length h2] at hi
    exact ⟨vs, vs[i], h1, by simp [hi]⟩
  yld := fun i H O d x H' r hd y => by
    obtain ⟨vs, h1, h2⟩ := h H O r
    obtain ⟨rfl, y⟩ := y
    obtain ⟨v, v1, v2⟩ := h2.get hd
    have := y vs h1
    rw [v1] at this; cases this
    exact ⟨Same.refl _, v2⟩
  stop := fun H O r => by
    obtain ⟨vs, h1, h2⟩ := h H O r
    exact ⟨vs, h1, by rw [RepA.length h2]; exact Nat.le_refl _⟩
def enumD : Nat → List D → List D
  | _, [] => []
  | n, d :: ds => .tup [.int n, d] :: enumD (n + 1) ds
theorem enumD_len : ∀ {n : Nat} {ds : List D}, (enumD n ds).length = ds.length
  | _, [] => rfl
  | n, d :: ds => by unfold enumD; rw [List.length_cons, List.length_cons, enumD_len]
theorem enumD_get : ∀ {n i : Nat} {ds : List D} {d : D}, (enumD n ds)[i]? = some d → ∃ e, ds[i]? = some e ∧ d = .tup [.int ((n + i : Nat) : Int), e]
  | n, i, [], d, h => by simp [enumD] at h
  | n, 0, e :: ds, d, h => by
    simp [enumD] at h
    exact ⟨e, by simp, by simp [h.symm]⟩
  | n, i + 1, e :: ds, d, h => by
    have h : (enumD (n + 1) ds)[i]? = some d := by simpa [enumD] using h
    obtain ⟨e', h1, h2⟩ := enumD_get h
    exact ⟨e', by simpa using h1, by rw [h2]; congr 3; omega⟩
theorem yl_pair {O : Addr → Prop} {H : Hp} {T : Addr} {x y : V} {d e : D} (hn : H T = none) (ho : ∀ a, O a → H a ≠ none) (r : Rep M H O L x d) (r2 : Rep M H O L y e) : Rep M (upd H T (.tup [x, y])) O L (.ref T) (.tup [d, e]) := by
  have F : Fz O H O (upd H T (.tup [x, y])) := fun a o e n => ⟨same_updN hn a o e, n⟩
  exact .tup upd_same (fun z => ho _ z hn) (.cons (r.fz F fun _ z => z) (.cons (r2.fz F fun _ z => z) .nil))
theorem yl_enumL {rest : Hp → (Addr → Prop) → Prop} (h : ∀ H O, rest H O → (∀ a, O a → H a ≠ none) ∧ ∃ vs, H a = some (.lst vs) ∧ RepA M H O L vs ds) : Yl M L rest (Ite M.K a) (enumD 0 ds) where
  go := fun i H O r hi => by
    obtain ⟨_, vs, h1, h2⟩ := h H O r
    rw [enumD_len, ← RepA.length h2] at hi
    exact ⟨vs, vs[i], .of h1, by simp [hi]⟩
  yld := fun i H O d x H' r hd y => by
    obtain ⟨ho, vs, h1, h2⟩ := h H O r
    obtain ⟨T, z, rfl, hn, rfl, y⟩ := y
    obtain ⟨e, e1, rfl⟩ := enumD_get hd
    obtain ⟨v, v1, v2⟩ := h2.get e1
    have := y vs (.of h1)
    rw [v1] at this; cases this
    rw [Nat.zero_add]
    exact ⟨same_updN hn, yl_pair hn ho (.int _) v2⟩
  stop := fun H O r => by
    obtain ⟨_, vs, h1, h2⟩ := h H O r
    exact ⟨vs, .of h1, by rw [enumD_len, RepA.length h2]; exact Nat.le_refl _⟩
theorem yl_enumT {rest : Hp → (Addr → Prop) → Prop} (h : ∀ H O, rest H O → (∀ a, O a → H a ≠ none) ∧ ∃ vs, SqT M.K H a vs ∧ RepA M H O L vs ds) : Yl M L rest (IteT M.K a) (enumD 0 ds) where
  go := fun i H O r hi => by
    obtain ⟨_, vs, h1, h2⟩ := h H O r
    rw [enumD_len, ← RepA.length h2] at hi
    exact ⟨vs, vs[i], h1, by simp [hi]⟩
  yld := fun i H O d x H' r hd y => by
    obtain ⟨ho, vs, h1, h2⟩ := h H O r
    obtain ⟨T, z, rfl, hn, rfl, y⟩ := y
    obtain ⟨e, e1, rfl⟩ := enumD_get hd
    obtain ⟨v, v1, v2⟩ := h2.get e1
    have := y vs h1
    rw [v1] at this; cases this
    rw [Nat.zero_add]
    exact ⟨same_updN hn, yl_pair hn ho (.int _) v2⟩
  stop := fun H O r => by
    obtain ⟨_, vs, h1, h2⟩ := h H O r
    exact ⟨vs, h1, by rw [enumD_len, RepA.length h2]⟩
def zipD : List D → List D → List D
  | d :: ds, e :: es => .tup [d, e] :: zipD ds es
  | _, _ => []
theorem zipD_len : ∀ {ds es : List D}, (zipD ds es).length = min ds.length es.length
  | [], _ => by simp [zipD]
  | _ :: _, [] => by simp [zipD]
  | d :: ds, e :: es => by
    unfold zipD
    rw [List.length_cons, List.length_cons, List.length_cons, zipD_len]
    omega
theorem zipD_get : ∀ {i : Nat} {ds es : List D} {d : D}, (zipD ds es)[i]? = some d → ∃ x y, ds[i]? = some x ∧ es[i]? = some y ∧ d = .tup [x, y]
  | i, [], es, d, h => by simp [zipD] at h
  | i, _ :: _, [], d, h => by simp [zipD] at h
  | 0, x :: ds, y :: es, d, h => by
    simp [zipD] at h
    exact ⟨x, y, by simp, by simp, h.symm⟩
  | i + 1, x :: ds, y :: es, d, h => by
    have h : (zipD ds es)[i]? = some d := by simpa [zipD] using h
    obtain ⟨x', y', h1, h2, h3⟩ := zipD_get h
    exact ⟨x', y', by simpa using h1, by simpa using h2, h3⟩
theorem yl_zipL {rest : Hp → (Addr → Prop) → Prop} (h : ∀ H O, rest H O → (∀ a, O a → H a ≠ none) ∧ (∃ vs, H a = some (.lst vs) ∧ RepA M H O L vs ds) ∧ ∃ ws, H b = some (.lst ws) ∧ RepA M H O L ws es) : Yl M L rest (Itz M.K a b) (zipD ds es) where
  go := fun i H O r hi => by
    obtain ⟨_, ⟨vs, h1, h2⟩, ws, h3, h4⟩ := h H O r
    rw [zipD_len, ← RepA.length h2, ← RepA.length h4] at hi
    have i1 : i < vs.length := by omega
    have i2 : i < ws.length := by omega
    exact ⟨vs, ws, vs[i], ws[i], .of h1, .of h3, by simp [i1], by simp [i2]⟩
  yld := fun i H O d x H' r hd y => by
    obtain ⟨ho, ⟨vs, h1, h2⟩, ws, h3, h4⟩ := h H O r
    obtain ⟨T, z, z2, rfl, hn, rfl, y1, y2⟩ := y
    obtain ⟨e, e', e1, e2, rfl⟩ := zipD_get hd
    obtain ⟨v, v1, v2⟩ := h2.get e1
    obtain ⟨v', v1', v2'⟩ := h4.get e2
    have := y1 vs (.of h1)
    rw [v1] at this; cases this
    have := y2 ws (.of h3)
    rw [v1'] at this; cases this
    exact ⟨same_updN hn, yl_pair hn ho v2 v2'⟩
  stop := fun H O r => by
    obtain ⟨_, ⟨vs, h1, h2⟩, ws, h3, h4⟩ := h H O r
    refine ⟨vs, ws, .of h1, .of h3, ?_⟩
    rw [zipD_len, RepA.length h2, RepA.length h4]
    omega
theorem yl_zipT {rest : Hp → (Addr → Prop) → Prop} (h : ∀ H O, rest H O → (∀ a, O a → H a ≠ none) ∧ (∃ vs, SqT M.K H a vs ∧ RepA M H O L vs ds) ∧ ∃ ws, SqT M.K H b ws ∧ RepA M H O L ws es) : Yl M L rest (RZ.ItzT M.K a b) (zipD ds es) where
  go := fun i H O r hi => by
    obtain ⟨_, ⟨vs, h1, h2⟩, ws, h3, h4⟩ := h H O r
    rw [zipD_len, ← RepA.length h2, ← RepA.length h4] at hi
    have i1 : i < vs.length := by omega
    have i2 : i < ws.length := by omega
    exact ⟨vs, ws, vs[i], ws[i], h1, h3, by simp [i1], by simp [i2]⟩
  yld := fun i H O d x H' r hd y => by
    obtain ⟨ho, ⟨vs, h1, h2⟩, ws, h3, h4⟩ := h H O r
    obtain ⟨T, z, z2, rfl, hn, rfl, y1, y2⟩ := y
    obtain ⟨e, e', e1, e2, rfl⟩ := zipD_get hd
    obtain ⟨v, v1, v2⟩ := h2.get e1
    obtain ⟨v', v1', v2'⟩ := h4.get e2
    have := y1 vs h1
    rw [v1] at this; cases this
    have := y2 ws h3
    rw [v1'] at this; cases this
    exact ⟨same_updN hn, yl_pair hn ho v2 v2'⟩
  stop := fun H O r => by
    obtain ⟨_, ⟨vs, h1, h2⟩, ws, h3, h4⟩ := h H O r
    refine ⟨vs, ws, h1, h3, ?_⟩
    rw [zipD_len, RepA.length h2, RepA.length h4]
    omega
end
end DW

set_option Elab.async false
set_option linter.all false
set_option maxRecDepth 100000
set_option maxHeartbeats 4000000
/-! DW10: iterations' rules; for, while; comprehensions. -/
namespace DW
open PySem PySem.Spec L2

/-! ### what is walked -/
def okRg (i : Int) : Bool := decide (-(2 ^ 62) ≤ i) && decide (i < 2 ^ 62)
theorem okRg_ok {i : Int} (h : okRg i = true) : -(2 ^ 62) ≤ i ∧ i < 2 ^ 62 := by
  unfold okRg at h
  simp only [Bool.and_eq_true, decide_eq_true_eq] at h
  exact h
def itR1 : List D → Option (List D)
  | [.int j] => if okRg j then some (itInts 0 j.toNat) else none
  | _ => none
def itR2 : List D → Option (List D)
  | [.int i, .int j] => if okRg i && okRg j then some (itInts i (j - i).toNat) else none
  | _ => none
def chars (x : Str) : List D := x.cps.toList.map fun c => .str ⟨#[c]⟩
def itSeq : D → Option (List D)
  | .lst xs => some xs
  | .tup xs => some xs
  | .scr ns => some (ns.map .int)
  | .str x => some (chars x)
  | _ => none
/-- lists and tuples alone -/
def itLT : D → Option (List D)
  | .lst xs => some xs
  | .tup xs => some xs
  | _ => none
def itEnum : List D → Option (List D)
  | [.lst xs] => some (enumD 0 xs)
  | [.tup xs] => some (enumD 0 xs)
  | _ => none
def itZip : List D → Option (List D)
  | [.lst xs, .lst ys] => some (zipD xs ys)
  | [.tup xs, .tup ys] => some (zipD xs ys)
  | _ => none
def iOf (g : List D → Option (List D)) (r : EL) : EL := fun ev c => (r ev c).bind fun ds c => R.of (g ds) c
def iOf1 (g : D → Option (List D)) (e : E) : EL := fun ev c => (e ev c).bind fun d c => R.of (g d) c
def iSeqS (K : PySem.W.Frag) (te : TE) : TI := fun σ H R => te σ H fun x H1 => (∃ a xs, x = .ref a ∧ SqL K H1 a xs ∧ R (Itl K a) H1) ∨ (∃ a xs, x = .ref a ∧ SqT K H1 a xs ∧ R (Itt K a) H1) ∨ ∃ z, x = .str z ∧ R (Its z) H1
section
variable {X : Cx} {tg : Expr}
theorem pi_seqS {l : Expr} {te : TE} (he : PE X l te) : PI X tg l (iSeqS X.K te) := by
  refine ⟨fun pins s σ H R I h => ?_⟩
  refine thn (he.run pins s σ H _ I h) fun v s1 ⟨y, H1, I1, r1, q1⟩ => ?_
  rcases q1 with ⟨a, xs, rfl, hq, q⟩ | ⟨a, xs, rfl, hq, q⟩ | ⟨x, rfl, q⟩
  · cases r1
    obtain ⟨its, rv, p, hz⟩ := I1.list hq
    refine wpAny_pyIter_list p.isList ?_
    refine ⟨s1.heap.objs.size, [s1.heap.objs.size], _, _, H1, rfl, I1.kept (t' := s1.toks) fun b o e => Heap.get?_push_of_some _ e, turn_list a _, ⟨_, Heap.get?_push_size _ rfl, rfl, rfl⟩, fun b hb => ?_, q⟩
    have e : b = s1.heap.objs.size := by simpa using hb
    subst e
    exact I1.fpOk (Nat.le_refl _) (I1.hok.fresh (Nat.le_refl _))
  · cases r1
    obtain ⟨its, rv, p, hz⟩ := I1.tuple hq
    refine wpAny_pyIter_tuple (show s1.heap.IsTuple a its.toArray from p) ?_
    refine ⟨s1.heap.objs.size, [s1.heap.objs.size], _, _, H1, rfl, I1.kept (t' := s1.toks) fun b o e => Heap.get?_push_of_some _ e, turn_tuple a _, ⟨_, Heap.get?_push_size _ rfl, rfl, rfl⟩, fun b hb => ?_, q⟩
    have e : b = s1.heap.objs.size := by simpa using hb
    subst e
    exact I1.fpOk (Nat.le_refl _) (I1.hok.fresh (Nat.le_refl _))
  · obtain ⟨t, rfl⟩ := r1
    cases ha : x.cps.all (· < 128)
    · exact wpAny_pyIter_wide ha (pi_one (tk := s1.toks) I1 _ (turn_str _ x t "str_iterator" (.inr rfl)) ⟨_, Heap.get?_push_size _ rfl, rfl, rfl⟩ q)
    · exact wpAny_pyIter_ascii ha (pi_one (tk := s1.toks) I1 _ (turn_str _ x t "str_ascii_iterator" (.inl rfl)) ⟨_, Heap.get?_push_size _ rfl, rfl, rfl⟩ q)
end
section
variable {M : Md} {O O' : Addr → Prop} {L : Option Addr} {H H' : Hp} {a b : Addr} {vs ws : List V} {ds es : List D}
theorem yl_str {rest : Hp → (Addr → Prop) → Prop} {x : Str} : Yl M L rest (Its x) (chars x) where
  go := fun i H O r h => by
    show i < x.cps.size
    simpa [chars] using h
  yld := fun i H O d v H' r h y => by
    obtain ⟨rfl, c, h1, rfl⟩ := y
    have : d = .str ⟨#[c]⟩ := by
      unfold chars at h
      rw [List.getElem?_map, Array.getElem?_toList, h1] at h
      exact (Option.some.inj h).symm
    subst this
    exact ⟨Same.refl _, .str _⟩
  stop := fun H O r => by
    show x.cps.size ≤ _
    simp [chars]
theorem repInts : ∀ {ns : List Int}, RepA M H O L (ns.map V.int) (ns.map D.int)
  | [] => .nil
  | n :: ns => .cons (.int n) repInts
theorem yl_scr {rest : Hp → (Addr → Prop) → Prop} {ns : List Int} (h : ∀ H O, rest H O → SqL M.K H a (ns.map V.int)) : Yl M L rest (Itl M.K a) (ns.map .int) where
  go := fun i H O r hi => by
    have hi : i < (ns.map V.int).length := by simpa using hi
    exact ⟨_, (ns.map V.int)[i], h H O r, by rw [List.getElem?_eq_getElem hi]⟩
  yld := fun i H O d x H' r hd y => by
    obtain ⟨rfl, y⟩ := y
    have := y _ (h _ O r)
    rw [List.getElem?_map] at this hd
    cases e : ns[i]? with
    | none => rw [e] at hd; cases hd
    | some n =>
      rw [e] at hd this
      cases hd
      cases this
      exact ⟨Same.refl _, .int _⟩
  stop := fun H O r => ⟨_, h H O r, by simp⟩
theorem rstS.lst {H1 : Hp} {O1 : Addr → Prop} (r : rstS O H H1 O1) (h : H a = some (.lst vs)) (n : ¬ O a) (q : RepA M H O L vs ds) : H1 a = some (.lst vs) ∧ RepA M H1 O1 L vs ds := ⟨(r.1 _ _ h n).1, q.fz r.1 fun _ z => z⟩
theorem sqT_fz {K : PySem.W.Frag} (k : ∀ o, H a = some o → H' a = some o) (h : SqT K H a vs) : SqT K H' a vs := by
  rcases h with (h | ⟨o, h⟩) | h
  · exact .inl (.inl (k _ h))
  · exact .inl (.inr ⟨o, k _ h⟩)
  · exact .inr h
theorem Rep.tupS {v : V} (h : Rep M H O L v (.tup ds)) : ∃ a vs, v = .ref a ∧ SqT M.K H a vs ∧ RepA M H O L vs ds ∧ ∀ H1 O1, Fz O H O1 H1 → SqT M.K H1 a vs := by
  cases h with
  | tup h1 h2 h3 => exact ⟨_, _, rfl, .of h1, h3, fun H1 O1 F => .of (F _ _ h1 h2).1⟩
  | tupK h1 h3 => exact ⟨_, _, rfl, h1.sqT, h3, fun H1 O1 F => h1.sqT⟩
end
section
variable {X : Cx} {xo : Xo} {tg e e2 : Expr} {es : List Expr} {fe : E} {fr : EL} {p pos tpos : Pos} {elts : List Expr} {kk : Nat} {B : Blk}
theorem ScX.range1 (S : ScX X B) (hm : X.mg "range" = none) (h : B.gl "range" = true) (ha : DBA X xo [e] fr) (hs : starEach [e] X.env = [(false, eval e X.env)] := by rfl) : DI X xo tg (.Call (.Name "range" p) [e] [] pos) (iOf itR1 fr) := fun W hW => by
  refine PIimp (pi_range1 (S.gl h).1 hm (ha W hW) hs) fun σ H Q h => ?_
  obtain ⟨G, ev, c, k, hx, h⟩ := h
  refine tG.mk k hx (Post.bind h fun ds c1 vs H1 s1 k1 r1 h1 => ?_)
  have r1' : RepBA X.md H1 (G.O σ ev) G.L vs ds := r1
  cases ez : itR1 ds with
  | none => rw [ez] at h1; exact h1.elim
  | some xs =>
    rw [ez] at h1
    unfold itR1 at ez
    split at ez
    · obtain ⟨v, rfl, h2⟩ := repA1 r1'
      obtain rfl := h2.int_eq
      split at ez <;> cases ez
      rename_i z
      exact ⟨_, rfl, (okRg_ok z).1, (okRg_ok z).2, h1 _ H1 .refl k1 yl_range⟩
    · cases ez
theorem ScX.range2 (S : ScX X B) (hm : X.mg "range" = none) (h : B.gl "range" = true) (ha : DBA X xo [e, e2] fr) (hs : starEach [e, e2] X.env = [(false, eval e X.env), (false, eval e2 X.env)] := by rfl) (hs2 : starEach [e2] X.env = [(false, eval e2 X.env)] := by rfl) : DI X xo tg (.Call (.Name "range" p) [e, e2] [] pos) (iOf itR2 fr) := fun W hW => by
  refine PIimp (pi_range2 (S.gl h).1 hm (ha W hW) hs hs2) fun σ H Q h => ?_
  obtain ⟨G, ev, c, k, hx, h⟩ := h
  refine tG.mk k hx (Post.bind h fun ds c1 vs H1 s1 k1 r1 h1 => ?_)
  have r1' : RepBA X.md H1 (G.O σ ev) G.L vs ds := r1
  cases ez : itR2 ds with
  | none => rw [ez] at h1; exact h1.elim
  | some xs =>
    rw [ez] at h1
    unfold itR2 at ez
    split at ez
    · obtain ⟨v, w, rfl, h2, h3⟩ := repA2 r1'
      obtain rfl := h2.int_eq
      obtain rfl := h3.int_eq
      split at ez <;> cases ez
      rename_i z
      simp only [Bool.and_eq_true] at z
      exact ⟨_, _, rfl, ⟨(okRg_ok z.1).1, (okRg_ok z.1).2, (okRg_ok z.2).1, (okRg_ok z.2).2⟩, h1 _ H1 .refl k1 yl_range⟩
    · cases ez
theorem DI.seq (he : DE X xo e fe) : DI X xo tg e (iOf1 itSeq fe) := fun W hW => by
  refine PIimp (pi_seqS (he W hW)) fun σ H Q h => ?_
  obtain ⟨G, ev, c, k, hx, h⟩ := h
  refine tG.mk k hx (Post.bind h fun d c1 v H1 s1 k1 r1 h1 => ?_)
  have r1' : Rep X.md H1 (G.O σ ev) G.L v d := r1
  have g1 := k.sm s1 k1
  cases ez : itSeq d with
  | none => rw [ez] at h1; exact h1.elim
  | some xs =>
    rw [ez] at h1
    unfold itSeq at ez
    split at ez <;> cases ez
    · obtain ⟨a, vs, rfl, q1, q2, q3⟩ := r1'.lst_eq
      exact .inl ⟨a, vs, rfl, .of q1, h1 _ H1 .refl k1 (yl_list fun H2 O2 r => ⟨vs, r.lst q1 q2 q3⟩)⟩
    · obtain ⟨a, vs, rfl, q1, q2, q3⟩ := r1'.tupS
      exact .inr (.inl ⟨a, vs, rfl, q1, h1 _ H1 .refl k1 (yl_tup fun H2 O2 r => ⟨vs, q3 _ _ r.1, q2.fz r.1 fun _ z => z⟩)⟩)
    · rename_i ns
      obtain ⟨a, e, q⟩ : ∃ a, v = .ref a ∧ ∀ H2 O2, rstS (G.O σ ev) H1 H2 O2 → SqL X.K H2 a (ns.map V.int) := by
        cases r1' with
        | scr h1 h2 h3 => exact ⟨_, rfl, fun H2 O2 r => sqL_fz (fun o e => (r.1 _ o e h3).1) h2⟩
        | scrK h2 => exact ⟨_, rfl, fun H2 O2 r => sqL_fz (fun o z => by cases z) h2⟩
      subst e
      exact .inl ⟨a, _, rfl, q H1 (G.O σ ev) ⟨.refl, fun a => g1.tr⟩, h1 _ H1 .refl k1 (yl_scr fun H2 O2 r => q H2 O2 r)⟩
    · obtain rfl := r1'.str_eq
      exact .inr (.inr ⟨_, rfl, h1 _ H1 .refl k1 yl_str⟩)
theorem RepB.lstC {M : Md} {G : Gd} {σ : St} {ev : Env} {H : Hp} {v : V} {ds : List D} (h : RepB M H (G.O σ ev) G.L v (.lst ds)) : ∃ a vs, v = .ref a ∧ H a = some (.lst vs) ∧ ∀ H1 O1, rstC (G.O σ ev) G.L H H1 O1 → H1 a = some (.lst vs) ∧ RepA M H1 O1 G.L vs ds := by
  rcases h with h | ⟨a, ho, rfl, n, h1, r⟩
  · obtain ⟨a, vs, rfl, h1, h2, h3⟩ := h.lst_eq
    exact ⟨a, vs, rfl, h1, fun H1 O1 r => ⟨(r.1.1 _ _ h1 h2).1, h3.fz r.1.1 fun _ z => z⟩⟩
  · cases r with
    | lst r => exact ⟨a, _, rfl, h1, fun H1 O1 q => ⟨q.2 a _ h1 n, r.fz q.1.1 fun _ z => z⟩⟩
theorem RepB.tupC {M : Md} {G : Gd} {σ : St} {ev : Env} {H : Hp} {v : V} {ds : List D} (h : RepB M H (G.O σ ev) G.L v (.tup ds)) : ∃ a vs, v = .ref a ∧ SqT M.K H a vs ∧ ∀ H1 O1, rstC (G.O σ ev) G.L H H1 O1 → SqT M.K H1 a vs ∧ RepA M H1 O1 G.L vs ds := by
  obtain ⟨a, vs, rfl, h1, h2, h3⟩ := (h.rep rfl).tupS
  exact ⟨a, vs, rfl, h1, fun H1 O1 r => ⟨h3 _ _ r.1.1, h2.fz r.1.1 fun _ z => z⟩⟩
/-- an own list may be walked where nothing is changed -/
theorem DIc.seq (he : DB X xo e fe) : DIc X xo tg e (iOf1 itSeq fe) := fun W hW => by
  refine PIimp (pi_seqS (he W hW)) fun σ H Q h => ?_
  obtain ⟨G, ev, c, k, hx, h⟩ := h
  refine tG.mk k hx (Post.bind h fun d c1 v H1 s1 k1 r1 h1 => ?_)
  have r1' : RepB X.md H1 (G.O σ ev) G.L v d := r1
  have g1 := k.sm s1 k1
  cases ez : itSeq d with
  | none => rw [ez] at h1; exact h1.elim
  | some xs =>
    rw [ez] at h1
    unfold itSeq at ez
    split at ez <;> cases ez
    · obtain ⟨a, vs, rfl, q1, q2⟩ := r1'.lstC
      exact .inl ⟨a, vs, rfl, .of q1, h1 _ H1 .refl k1 (yl_list fun H2 O2 r => ⟨vs, q2 _ _ r⟩)⟩
    · obtain ⟨a, vs, rfl, q1, q2⟩ := r1'.tupC
      exact .inr (.inl ⟨a, vs, rfl, q1, h1 _ H1 .refl k1 (yl_tup fun H2 O2 r => ⟨vs, q2 _ _ r⟩)⟩)
    · rename_i ns
      obtain ⟨a, e, q⟩ : ∃ a, v = .ref a ∧ ∀ H2 O2, rstC (G.O σ ev) G.L H1 H2 O2 → SqL X.K H2 a (ns.map V.int) := by
        cases r1'.rep rfl with
        | scr h1 h2 h3 => exact ⟨_, rfl, fun H2 O2 r => sqL_fz (fun o e => (r.1.1 _ o e h3).1) h2⟩
        | scrK h2 => exact ⟨_, rfl, fun H2 O2 r => sqL_fz (fun o z => by cases z) h2⟩
      subst e
      exact .inl ⟨a, _, rfl, q H1 (G.O σ ev) ⟨⟨.refl, fun a => g1.tr⟩, .refl⟩, h1 _ H1 .refl k1 (yl_scr fun H2 O2 r => q H2 O2 r)⟩
    · obtain rfl := r1'.str_eq
      exact .inr (.inr ⟨_, rfl, h1 _ H1 .refl k1 yl_str⟩)
theorem ScX.enum (S : ScX X B) (hm : X.mg "enumerate" = none) (h : B.gl "enumerate" = true) (ha : DA X xo [e] fr) (hs : starEach [e] X.env = [(false, eval e X.env)] := by rfl) : DI X xo (.Tuple elts kk tpos) (.Call (.Name "enumerate" p) [e] [] pos) (iOf itEnum fr) := fun W hW => by
  refine PIimp (pi_enumA (S.gl h).1 hm (ha W hW) hs) fun σ H Q h => ?_
  obtain ⟨G, ev, c, k, hx, h⟩ := h
  refine tG.mk k hx (Post.bind h fun ds c1 vs H1 s1 k1 r1 h1 => ?_)
  have r1' : RepA X.md H1 (G.O σ ev) G.L vs ds := r1
  cases ez : itEnum ds with
  | none => rw [ez] at h1; exact h1.elim
  | some xs =>
    rw [ez] at h1
    unfold itEnum at ez
    split at ez <;> cases ez
    · cases r1' with
      | cons r rr =>
        cases rr
        obtain ⟨a, vs, rfl, q1, q2, q3⟩ := r.lst_eq
        exact ⟨a, vs, rfl, .inl ⟨.of q1, h1 _ H1 .refl k1 (yl_enumL fun H2 O2 r => ⟨r.2, vs, r.lst q1 q2 q3⟩)⟩⟩
    · cases r1' with
      | cons r rr =>
        cases rr
        obtain ⟨a, vs, rfl, q1, q2, q3⟩ := r.tupS
        exact ⟨a, vs, rfl, .inr ⟨q1, h1 _ H1 .refl k1 (yl_enumT fun H2 O2 r => ⟨r.2, vs, q3 _ _ r.1, q2.fz r.1 fun _ z => z⟩)⟩⟩
theorem ScX.zip (S : ScX X B) (hm : X.mg "zip" = none) (h : B.gl "zip" = true) (ha : DA X xo [e, e2] fr)
    (hs : starEach [e, e2] X.env = (false, eval e X.env) :: starEach [e2] X.env := by rfl) (hpl : (backTo pos (starEach [e2] X.env)).any (·.1) = false := by rfl) : DI X xo (.Tuple elts kk tpos) (.Call (.Name "zip" p) [e, e2] [] pos) (iOf itZip fr) := fun W hW => by
  refine PIimp (RZ.pi_zipA (S.gl h).1 hm (ha W hW) hs hpl) fun σ H Q h => ?_
  obtain ⟨G, ev, c, k, hx, h⟩ := h
  refine tG.mk k hx (Post.bind h fun ds c1 vs H1 s1 k1 r1 h1 => ?_)
  have r1' : RepA X.md H1 (G.O σ ev) G.L vs ds := r1
  cases ez : itZip ds with
  | none => rw [ez] at h1; exact h1.elim
  | some xs =>
    rw [ez] at h1
    unfold itZip at ez
    split at ez <;> cases ez
    · cases r1' with
      | cons r rr =>
        cases rr with
        | cons r' rr =>
          cases rr
          obtain ⟨a, vs, rfl, q1, q2, q3⟩ := r.lst_eq
          obtain ⟨b, ws, rfl, z1, z2, z3⟩ := r'.lst_eq
          exact ⟨a, b, vs, ws, rfl, .inl ⟨.of q1, .of z1, h1 _ H1 .refl k1 (yl_zipL fun H2 O2 r => ⟨r.2, ⟨vs, r.lst q1 q2 q3⟩, ws, r.lst z1 z2 z3⟩)⟩⟩
    · cases r1' with
      | cons r rr =>
        cases rr with
        | cons r' rr =>
          cases rr
          obtain ⟨a, vs, rfl, q1, q2, q3⟩ := r.tupS
          obtain ⟨b, ws, rfl, z1, z2, z3⟩ := r'.tupS
          exact ⟨a, b, vs, ws, rfl, .inr ⟨q1, z1, h1 _ H1 .refl k1 (yl_zipT fun H2 O2 r => ⟨r.2, ⟨vs, q3 _ _ r.1, q2.fz r.1 fun _ z => z⟩, ws, z3 _ _ r.1, z2.fz r.1 fun _ z => z⟩)⟩⟩
/-- .. over lists that are one's own, in a comprehension -/
theorem ScX.enumC (S : ScX X B) (hm : X.mg "enumerate" = none) (h : B.gl "enumerate" = true) (ha : DBA X xo [e] fr) (hs : starEach [e] X.env = [(false, eval e X.env)] := by rfl) : DIc X xo (.Tuple elts kk tpos) (.Call (.Name "enumerate" p) [e] [] pos) (iOf itEnum fr) := fun W hW => by
  refine PIimp (pi_enumA (S.gl h).1 hm (ha W hW) hs) fun σ H Q h => ?_
  obtain ⟨G, ev, c, k, hx, h⟩ := h
  refine tG.mk k hx (Post.bind h fun ds c1 vs H1 s1 k1 r1 h1 => ?_)
  have r1' : RepBA X.md H1 (G.O σ ev) G.L vs ds := r1
  cases ez : itEnum ds with
  | none => rw [ez] at h1; exact h1.elim
  | some xs =>
    rw [ez] at h1
    unfold itEnum at ez
    split at ez <;> cases ez
    · obtain ⟨v, rfl, r⟩ := repA1 r1'
      obtain ⟨a, vs, rfl, q1, q2⟩ := r.lstC
      exact ⟨a, vs, rfl, .inl ⟨.of q1, h1 _ H1 .refl k1 (yl_enumL fun H2 O2 r => ⟨r.1.2, vs, q2 _ _ r⟩)⟩⟩
    · obtain ⟨v, rfl, r⟩ := repA1 r1'
      obtain ⟨a, vs, rfl, q1, q2⟩ := r.tupC
      exact ⟨a, vs, rfl, .inr ⟨q1, h1 _ H1 .refl k1 (yl_enumT fun H2 O2 r => ⟨r.1.2, vs, q2 _ _ r⟩)⟩⟩
theorem ScX.zipC (S : ScX X B) (hm : X.mg "zip" = none) (h : B.gl "zip" = true) (ha : DBA X xo [e, e2] fr)
    (hs : starEach [e, e2] X.env = (false, eval e X.env) :: starEach [e2] X.env := by rfl) (hpl : (backTo pos (starEach [e2] X.env)).any (·.1) = false := by rfl) : DIc X xo (.Tuple elts kk tpos) (.Call (.Name "zip" p) [e, e2] [] pos) (iOf itZip fr) := fun W hW => by
  refine PIimp (RZ.pi_zipA (S.gl h).1 hm (ha W hW) hs hpl) fun σ H Q h => ?_
  obtain ⟨G, ev, c, k, hx, h⟩ := h
  refine tG.mk k hx (Post.bind h fun ds c1 vs H1 s1 k1 r1 h1 => ?_)
  have r1' : RepBA X.md H1 (G.O σ ev) G.L vs ds := r1
  cases ez : itZip ds with
  | none => rw [ez] at h1; exact h1.elim
  | some xs =>
    rw [ez] at h1
    unfold itZip at ez
    split at ez <;> cases ez
    · obtain ⟨v, w, rfl, r, r'⟩ := repA2 r1'
      obtain ⟨a, vs, rfl, q1, q2⟩ := r.lstC
      obtain ⟨b, ws, rfl, z1, z2⟩ := r'.lstC
      exact ⟨a, b, vs, ws, rfl, .inl ⟨.of q1, .of z1, h1 _ H1 .refl k1 (yl_zipL fun H2 O2 r => ⟨r.1.2, ⟨vs, q2 _ _ r⟩, ws, z2 _ _ r⟩)⟩⟩
    · obtain ⟨v, w, rfl, r, r'⟩ := repA2 r1'
      obtain ⟨a, vs, rfl, q1, q2⟩ := r.tupC
      obtain ⟨b, ws, rfl, z1, z2⟩ := r'.tupC
      exact ⟨a, b, vs, ws, rfl, .inr ⟨q1, z1, h1 _ H1 .refl k1 (yl_zipT fun H2 O2 r => ⟨r.1.2, ⟨vs, q2 _ _ r⟩, ws, z2 _ _ r⟩)⟩⟩
end

/-! ### for -/
def forL (p : Pt) (b : SF) : List D → SF
  | [], ev, c => .nx ev c
  | d :: ds, ev, c => match bindP p d ev with
    | none => .bad
    | some ev1 => match b ev1 c with
      | .nx ev' c' => forL p b ds ev' c'
      | .cnt ev' c' => forL p b ds ev' c'
      | .brk ev' c' => .nx ev' c'
      | r => r
def sFor (it : EL) (p : Pt) (b : SF) : SF := fun ev c => (it ev c).toS ev fun ds c => forL p b ds ev c
section
variable {X : Cx} {xo : Xo} {lo : Bool} {tg e : Expr} {body : List Stmt} {fi : EL} {p : Pt} {b : SF} {pos : Pos} {B : Blk}
theorem PostS.ends {M : Md} {G : Gd} {σ : St} {H : Hp} {ev : Env} {W : WX} {D1 D2 : Ends} {r : SR} (h : PostS M lo G σ H ev W D1 r) (h1 : ∀ σ H, D1.nx σ H → D2.nx σ H) (h2 : ∀ σ H, D1.bk σ H → D2.bk σ H) (h3 : ∀ σ H, D1.ct σ H → D2.ct σ H) (h4 : ∀ v H, D1.rt v H → D2.rt v H) : PostS M lo G σ H ev W D2 r := by
  cases r with
  | nx e c => exact fun σ' H' g F => h1 _ _ (h σ' H' g F)
  | brk e c => exact fun σ' H' g F => h2 _ _ (h σ' H' g F)
  | cnt e c => exact fun σ' H' g F => h3 _ _ (h σ' H' g F)
  | exc x e c => exact h
  | bad => exact h
  | ret d c =>
    unfold PostS at h ⊢
    cases lo with
    | false => exact fun v H' s k r => h4 _ _ (h v H' s k r)
    | true =>
      obtain ⟨b, e, h⟩ := h
      exact ⟨b, e, fun H' => h4 _ _ (h H')⟩
theorem ScX.for (S : ScX X B) (hp : PassesOwn (model X.prog X.w) X.A X.env X.xe) (hi : DI X xo tg e fi) (hg : DG X tg p) (hb : DSs X xo lo body b) (hs : ∀ x, foldedSetIterable e X.env x = pure x := by intro _; rfl) : DS X xo lo (.For tg e body [] pos) (sFor fi p b) := fun W hW => by
  refine PSimp (ps_for hp S.calm (hi W hW) hg (hb W hW) hs) fun D' σ H h => ?_
  obtain ⟨G, ev, c, k, hx, h⟩ := h
  refine tG.mk k hx (PostS.bind k h fun ds c1 J H1 s1 k1 g1 y h1 => ?_)
  have y : Yl X.md G.L (rstS (G.O σ ev) H1) J ds := y
  refine ⟨fun i m σ2 H2 => ∃ ev2 c2, m = ds.length - i ∧ i ≤ ds.length ∧ Gk X.md G σ2 H2 ev2 c2 ∧ Fz (G.O σ ev) H1 (G.O σ2 ev2) H2 ∧ PostS X.md lo G σ2 H2 ev2 W D' (forL p b (ds.drop i) ev2 c2), ⟨ds.length, ev, c1, rfl, Nat.zero_le _, g1, .refl, h1⟩, ?_⟩
  rintro i m σ2 H2 ⟨ev2, c2, rfl, hi, g2, F2, h2⟩
  have rest : rstS (G.O σ ev) H1 H2 (G.O σ2 ev2) := ⟨F2, fun a => g2.tr⟩
  by_cases hl : i < ds.length
  · right
    have ed : ds[i]? = some ds[i] := List.getElem?_eq_getElem hl
    rw [List.drop_eq_getElem_cons hl] at h2
    unfold forL at h2
    refine ⟨y.go i H2 _ rest hl, fun σ3 H3 => ∃ ev3 c3, Gk X.md G σ3 H3 ev3 c3 ∧ Fz (G.O σ ev) H1 (G.O σ3 ev3) H3 ∧ PostS X.md lo G σ3 H3 ev3 W D' (forL p b (ds.drop (i + 1)) ev3 c3), fun σ' H' ⟨ev3, c3, g3, F3, h3⟩ => ⟨ds.length - (i + 1), by omega, ev3, c3, rfl, hl, g3, F3, h3⟩, fun x H3 yy => ?_⟩
    obtain ⟨sm, rx⟩ := y.yld i H2 _ _ x H3 rest ed yy
    have g3 := g2.same sm
    have Fs : Fz (G.O σ2 ev2) H2 (G.O σ2 ev2) H3 := Gd.fzSm (.of_same sm)
    cases e1 : bindP p ds[i] ev2 with
    | none => rw [e1] at h2; exact h2.elim
    | some ev3 =>
      rw [e1] at h2
      dsimp only at h2
      refine gPt_ok p g3 rx e1 fun σ4 g4 F4 _ => tS.mk g4 hx ?_
      have F24 := Fs.trans F4
      have F14 := F2.trans F24
      cases e2 : b ev3 c2 with
      | nx ev' c' =>
        rw [e2] at h2
        exact fun σ' H' g' F' => ⟨ev', c', g', F14.trans F', PostS.from h2 (F24.trans F')⟩
      | cnt ev' c' =>
        rw [e2] at h2
        exact fun σ' H' g' F' => ⟨ev', c', g', F14.trans F', PostS.from h2 (F24.trans F')⟩
      | brk ev' c' =>
        rw [e2] at h2
        exact fun σ' H' g' F' => h2 σ' H' g' (F24.trans F')
      | ret d c' => rw [e2] at h2; exact h2
      | exc x ev' c' => rw [e2] at h2; exact fun cl dd σ' H' g' F' => h2 cl dd σ' H' g' (F24.trans F')
      | bad => rw [e2] at h2; exact h2
  · left
    have e0 : i = ds.length := by omega
    subst e0
    rw [List.drop_length] at h2
    exact ⟨y.stop H2 _ rest, h2 σ2 H2 g2 .refl⟩

/-! ### while -/
def whL (t : T) (b : SF) : Nat → SF
  | 0, _, _ => .bad
  | n + 1, ev, c => (t ev c).toS ev fun k c => if k = true then (match b ev c with
      | .nx ev' c' => whL t b n ev' c'
      | .cnt ev' c' => whL t b n ev' c'
      | .brk ev' c' => .nx ev' c'
      | r => r) else .nx ev c
/-- it ends at some depth -/
noncomputable def sWhl (t : T) (b : SF) : SF := fun ev c => open Classical in if h : ∃ n, whL t b n ev c ≠ .bad then whL t b (choose h) ev c else .bad
theorem ScX.whl (S : ScX X B) {te : Expr} {t : T} (hp : PassesOwn (model X.prog X.w) X.A X.env X.xe) (ht : DT X xo te t) (hb : DSs X xo lo body b) : DS X xo lo (.While te body [] pos) (sWhl t b) := fun W hW => by
  refine PSimp (ps_while hp (ht W hW) (hb W hW)) fun D' σ H h => ?_
  obtain ⟨G, ev, c, k, hx, h⟩ := h
  have h : ∃ n, PostS X.md lo G σ H ev W D' (whL t b n ev c) := by
    unfold sWhl at h
    split at h
    · exact ⟨_, h⟩
    · exact h.elim
  obtain ⟨n, h⟩ := h
  refine ⟨fun m σ2 H2 => ∃ ev2 c2, Gk X.md G σ2 H2 ev2 c2 ∧ PostS X.md lo G σ2 H2 ev2 W D' (whL t b m ev2 c2), ⟨n, ev, c, k, h⟩, ?_⟩
  rintro m σ2 H2 ⟨ev2, c2, g2, h2⟩
  cases m with
  | zero => exact h2.elim
  | succ m =>
    unfold whL at h2
    refine tG.mk g2 hx (PostS.bind g2 h2 fun kb c3 kv H3 s3 k3 g3 r3 h3 => ?_)
    cases r3
    cases kb with
    | false => exact h3 σ2 H3 g3 .refl
    | true =>
      refine ⟨fun σ4 H4 => ∃ ev4 c4, Gk X.md G σ4 H4 ev4 c4 ∧ PostS X.md lo G σ4 H4 ev4 W D' (whL t b m ev4 c4), fun σ' H' ⟨ev4, c4, g4, h4⟩ => ⟨m, Nat.lt_succ_self _, ev4, c4, g4, h4⟩, tS.mk g3 hx ?_⟩
      simp only [if_true] at h3
      cases e2 : b ev2 c3 with
      | nx ev' c' =>
        rw [e2] at h3
        exact fun σ' H' g' F' => ⟨ev', c', g', PostS.from h3 F'⟩
      | cnt ev' c' =>
        rw [e2] at h3
        exact fun σ' H' g' F' => ⟨ev', c', g', PostS.from h3 F'⟩
      | brk ev' c' => rw [e2] at h3; exact h3
      | ret d c' => rw [e2] at h3; exact h3
      | exc x ev' c' => rw [e2] at h3; exact h3
      | bad => rw [e2] at h3; exact h3
theorem whL_up {t : T} {b : SF} : ∀ (n m : Nat) {ev : Env} {c : Int}, whL t b n ev c ≠ .bad → n ≤ m → whL t b m ev c = whL t b n ev c
  | 0, _, _, _, h, _ => absurd rfl h
  | n + 1, 0, _, _, _, hm => absurd hm (by omega)
  | n + 1, m + 1, ev, c, h, hm => by
    unfold whL at h ⊢
    cases e1 : t ev c with
    | bad => rfl
    | exc x c' => rfl
    | ok k c' =>
      rw [e1] at h
      cases k with
      | false => rfl
      | true =>
        simp only [R.toS, if_true] at h ⊢
        cases e2 : b ev c' with
        | nx ev' c' =>
          rw [e2] at h
          exact whL_up n m h (by omega)
        | cnt ev' c' =>
          rw [e2] at h
          exact whL_up n m h (by omega)
        | brk ev' c' => rfl
        | ret d c' => rfl
        | exc x ev' c' => rfl
        | bad => rfl
theorem sWhl_of {t : T} {b : SF} {n : Nat} {ev : Env} {c : Int} (h : whL t b n ev c ≠ .bad) : sWhl t b ev c = whL t b n ev c := by
  unfold sWhl
  have hx : ∃ n, whL t b n ev c ≠ .bad := ⟨n, h⟩
  rw [dif_pos hx]
  have h2 := Classical.choose_spec hx
  rcases Nat.le_total n (Classical.choose hx) with q | q
  · exact whL_up n _ h q
  · exact (whL_up _ n h2 q).symm
/-- one turn -/
theorem sWhl_eq {t : T} {b : SF} {ev : Env} {c : Int} : sWhl t b ev c = (t ev c).toS ev fun k c => if k = true then (match b ev c with
      | .nx ev' c' => sWhl t b ev' c'
      | .cnt ev' c' => sWhl t b ev' c'
      | .brk ev' c' => .nx ev' c'
      | r => r) else .nx ev c := by
  have go : ∀ ev c, sWhl t b ev c ≠ .bad → ∃ n, whL t b n ev c ≠ .bad := fun ev c h => by
    unfold sWhl at h
    split at h
    · assumption
    · exact absurd rfl h
  cases e1 : t ev c with
  | bad =>
    by_cases q : sWhl t b ev c = .bad
    · exact q
    · obtain ⟨n, hn⟩ := go _ _ q
      rw [sWhl_of hn]
      cases n with
      | zero => rfl
      | succ n => unfold whL; rw [e1]; rfl
  | exc x c' =>
    have : whL t b 1 ev c ≠ .bad := by unfold whL; rw [e1]; exact fun z => by cases z
    rw [sWhl_of this]; unfold whL; rw [e1]; rfl
  | ok k c' =>
    cases k with
    | false =>
      have : whL t b 1 ev c ≠ .bad := by unfold whL; rw [e1]; exact fun z => by cases z
      rw [sWhl_of this]; unfold whL; rw [e1]; rfl
    | true =>
      simp only [R.toS, if_true]
      have step : ∀ n, whL t b (n + 1) ev c = (match b ev c' with
        | .nx ev' c' => whL t b n ev' c'
        | .cnt ev' c' => whL t b n ev' c'
        | .brk ev' c' => .nx ev' c'
        | r => r) := fun n => by
          rw [whL, e1]
          simp only [R.toS, if_true]
      have fin : ∀ ev' c'', (∀ n, whL t b (n + 1) ev c = whL t b n ev' c'') → sWhl t b ev c = sWhl t b ev' c'' := fun ev' c'' st => by
        by_cases q : sWhl t b ev' c'' = .bad
        · rw [q]
          by_cases q2 : sWhl t b ev c = .bad
          · exact q2
          · obtain ⟨n, hn⟩ := go _ _ q2
            cases n with
            | zero => exact absurd rfl hn
            | succ n =>
              rw [st] at hn
              rw [sWhl_of hn] at q
              exact absurd q hn
        · obtain ⟨n, hn⟩ := go _ _ q
          rw [sWhl_of hn]
          rw [← st] at hn ⊢
          exact sWhl_of hn
      cases e2 : b ev c' with
      | nx ev' c'' => exact fin ev' c'' fun n => by rw [step, e2]
      | cnt ev' c'' => exact fin ev' c'' fun n => by rw [step, e2]
      | brk ev' c'' =>
        have : whL t b 1 ev c ≠ .bad := by rw [step, e2]; exact fun z => by cases z
        rw [sWhl_of this, step, e2]
      | ret d c'' =>
        have : whL t b 1 ev c ≠ .bad := by rw [step, e2]; exact fun z => by cases z
        rw [sWhl_of this, step, e2]
      | exc x ev' c'' =>
        have : whL t b 1 ev c ≠ .bad := by rw [step, e2]; exact fun z => by cases z
        rw [sWhl_of this, step, e2]
      | bad =>
        by_cases q : sWhl t b ev c = .bad
        · exact q
        · obtain ⟨n, hn⟩ := go _ _ q
          cases n with
          | zero => exact absurd rfl hn
          | succ n => rw [step, e2] at hn; exact absurd rfl hn
end
end DW

set_option Elab.async false
set_option linter.all false
set_option maxRecDepth 100000
set_option maxHeartbeats 4000000
/-! DW11: comprehensions, slices. -/
namespace DW
open PySem PySem.Spec L2

/-! ### a comprehension's own block -/
def wipeE : List Nat → Env → Env
  | [], ev => ev
  | v :: vs, ev => (wipeE vs ev).set v .no
def notOwn : Option S → Bool
  | some (.own _) => false
  | _ => true
def ownFree (vs : List Nat) (ev : Env) : Bool := vs.all fun i => notOwn ev[i]?
theorem wipeE_length (ev : Env) : ∀ vs : List Nat, (wipeE vs ev).length = ev.length
  | [] => rfl
  | v :: vs => by unfold wipeE; rw [List.length_set, wipeE_length ev vs]
theorem wipeE_get {ev : Env} {j : Nat} : ∀ {vs : List Nat}, (wipeE vs ev)[j]? = if j ∈ vs ∧ j < ev.length then some .no else ev[j]?
  | [] => by simp [wipeE]
  | v :: vs => by
    unfold wipeE
    by_cases h : v = j
    · subst h
      by_cases hl : v < ev.length
      · rw [List.getElem?_set_self (by rw [wipeE_length]; exact hl), if_pos ⟨List.mem_cons_self, hl⟩]
      · rw [List.getElem?_eq_none (by rw [List.length_set, wipeE_length]; omega), if_neg (fun z => hl z.2), List.getElem?_eq_none (by omega)]
    · rw [List.getElem?_set_ne h, wipeE_get]
      have : (j ∈ v :: vs) ↔ j ∈ vs := by
        simp only [List.mem_cons]
        exact ⟨fun z => z.resolve_left fun q => h q.symm, .inr⟩
      simp only [this]
theorem wipe_wipe {σ : St} {vs : List Nat} : wipe (wipe σ vs) vs = wipe σ vs := by
  apply List.ext_getElem?
  intro j
  rw [wipe_get, wipe_get, wipe_length]
  by_cases h : j ∈ vs ∧ j < σ.length
  · rw [if_pos h, if_pos h]
  · rw [if_neg h]
section
variable {M : Md} {G : Gd} {σ : St} {H H' : Hp} {ev : Env} {c c' : Int}
theorem Gk.wipe (g : Gk M G σ H ev c) : ∀ (vs : List Nat), Gk M G (L2.wipe σ vs) H (wipeE vs ev) c
  | [] => g
  | v :: vs => by
    unfold L2.wipe wipeE
    exact (Gk.setNo (Gk.wipe g vs)).1
theorem ownA_wipe (vs : List Nat) (h : ownFree vs ev = true) (len : ev.length = σ.length) (a : Addr) : OwnA (wipe σ vs) (wipeE vs ev) a ↔ OwnA σ ev a := by
  have nov : ∀ {j : Nat} {d : D}, ev[j]? = some (.own d) → j ∉ vs := fun {j d} e hj => by
    unfold ownFree at h
    rw [List.all_eq_true] at h
    have := h j hj
    rw [e] at this
    cases this
  constructor
  · rintro ⟨j, d, h1, h2⟩
    rw [wipeE_get] at h1
    rw [wipe_get] at h2
    by_cases q : j ∈ vs ∧ j < ev.length
    · rw [if_pos q] at h1; cases h1
    · rw [if_neg q] at h1
      rw [← len, if_neg q] at h2
      exact ⟨j, d, h1, h2⟩
  · rintro ⟨j, d, h1, h2⟩
    refine ⟨j, d, ?_, ?_⟩
    · rw [wipeE_get, if_neg fun z => nov h1 z.1]; exact h1
    · rw [wipe_get, if_neg fun z => nov h1 z.1]; exact h2
theorem O_wipe (vs : List Nat) (h : ownFree vs ev = true) (len : ev.length = σ.length) : G.O (wipe σ vs) (wipeE vs ev) = G.O σ ev := by
  funext a
  apply propext
  constructor
  · rintro (z | z | z | z)
    · exact .inl z
    · exact .inr (.inl z)
    · exact .inr (.inr (.inl ((ownA_wipe vs h len a).mp z)))
    · exact .inr (.inr (.inr z))
  · rintro (z | z | z | z)
    · exact .inl z
    · exact .inr (.inl z)
    · exact .inr (.inr (.inl ((ownA_wipe vs h len a).mpr z)))
    · exact .inr (.inr (.inr z))
/-- the newest object on its way changes -/
theorem Gk.updTm {T : List (Addr × D)} {a : Addr} {d d2 : D} {ho : HO} (g : Gk M (G.tm ((a, d) :: T)) σ H ev c) (r : RepH M H ((G.tm ((a, d) :: T)).O σ ev) G.L ho d2) :
    Gk M (G.tm ((a, d2) :: T)) σ (upd H a ho) ev c := by
  have hO : (G.tm ((a, d2) :: T)).O σ ev = (G.tm ((a, d) :: T)).O σ ev := rfl
  have na : ¬ OwnA σ ev a := g.tmo a List.mem_cons_self
  obtain ⟨h0, _⟩ := g.tm (a, d) List.mem_cons_self
  have oa : (G.tm ((a, d) :: T)).O σ ev a := .inr (.inr (.inr List.mem_cons_self))
  have F : Fz ((G.tm ((a, d) :: T)).O σ ev) H ((G.tm ((a, d2) :: T)).O σ ev) (upd H a ho) := fun b o e n => by
    have hb : b ≠ a := fun z => n (by rw [z]; exact oa)
    exact ⟨by rw [upd_ne hb]; exact e, n⟩
  have nl : ∀ b, G.L = some b → b ≠ a := fun b z e => by rw [e] at z; exact g.lo a z h0
  have ow : ∀ {b : Addr} {d' : D}, b ≠ a → Ow M (G.tm ((a, d) :: T)) σ H ev b d' → Ow M (G.tm ((a, d2) :: T)) σ (upd H a ho) ev b d' := fun {b d'} hb ⟨h1, h', h2, r⟩ => ⟨h1, h', by rw [upd_ne hb]; exact h2, r.fz F fun _ z => z⟩
  have nd := List.nodup_cons.mp g.tmd
  refine ⟨g.len, fun b o e n => ?_, fun b e => ?_, g.fo, g.lo, fun j d' e => ?_, fun j d' e => ?_, g.dist, fun p hp => ?_, g.tmd, g.tmo, fun j x e => ?_⟩
  · have hb : b ≠ a := fun z => by rw [z] at e; rw [show G.H0 a = none from h0] at e; cases e
    rw [upd_ne hb]; exact g.keep b o e n
  · rw [upd_ne (nl b e)]; exact g.cell b e
  · obtain ⟨v, h1, r⟩ := g.val j d' e
    exact ⟨v, h1, r.fz F fun _ z => z⟩
  · obtain ⟨b, h1, h2⟩ := g.own j d' e
    exact ⟨b, h1, ow (fun z => na (by rw [← z]; exact ⟨j, d', e, h1⟩)) h2⟩
  · rcases List.mem_cons.mp hp with e | hp
    · subst e
      exact ⟨h0, ho, upd_same, r.fz F fun _ z => z⟩
    · exact ow (fun z => nd.1 (by rw [← z]; exact List.mem_map.mpr ⟨p, hp, rfl⟩)) (g.tm p (List.mem_cons_of_mem _ hp))
  · obtain ⟨b, cls, d', h1, h2, r⟩ := g.ex j x e
    exact ⟨b, cls, d', h1, h2, r.fz F fun _ z => z⟩
end
mutual
theorem bindP_out : ∀ (p : Pt) {d : D} {ev ev' : Env} {j : Nat}, bindP p d ev = some ev' → j ∉ p.slots → ev'[j]? = ev[j]?
  | .nm i, d, ev, ev', j, e, h => by
    unfold bindP at e
    cases e
    exact List.getElem?_set_ne fun z => h (by simp [Pt.slots, z])
  | .tp ps, d, ev, ev', j, e, h => by
    cases d with
    | tup ds => exact bindPs_out ps (by unfold bindP at e; exact e) (by simpa [Pt.slots] using h)
    | _ => exact absurd e (by unfold bindP; exact fun z => by cases z)
theorem bindPs_out : ∀ (ps : List Pt) {ds : List D} {ev ev' : Env} {j : Nat}, bindPs ps ds ev = some ev' → j ∉ Pt.slotss ps → ev'[j]? = ev[j]?
  | [], [], ev, ev', j, e, h => by unfold bindPs at e; cases e; rfl
  | [], _ :: _, ev, ev', j, e, h => by unfold bindPs at e; cases e
  | _ :: _, [], ev, ev', j, e, h => by unfold bindPs at e; cases e
  | p :: ps, d :: ds, ev, ev', j, e, h => by
    unfold bindPs at e
    cases e1 : bindP p d ev with
    | none => rw [e1] at e; cases e
    | some ev1 =>
      rw [e1] at e
      unfold Pt.slotss at h
      rw [List.mem_append, not_or] at h
      rw [bindPs_out ps (show bindPs ps ds ev1 = some ev' from e) h.2, bindP_out p e1 h.1]
end
def R.noX {α : Type} : R α → R α
  | .exc _ _ => .bad
  | r => r
/-- the items of a comprehension -/
def lcL (p : Pt) (t : T) (e : E) (ev : Env) : List D → Int → R (List D)
  | [], c => .ok [] c
  | d :: ds, c => match bindP p d ev with
    | none => .bad
    | some ev1 => (t ev1 c).bind fun k c => if k = true then (e ev1 c).bind fun y c => (lcL p t e ev ds c).bind fun ys c => .ok (y :: ys) c else lcL p t e ev ds c
def eLc (it : EL) (p : Pt) (t : T) (e : E) (vs : List Nat) : E := fun ev c => (it ev c).bind fun ds c => if ownFree vs ev = true then R.noX ((lcL p t e (wipeE vs ev) ds c).bind fun ys c => if ys.length ≤ sizeLine then .ok (.lst ys) c else .bad) else .bad
def tYesD : T := fun _ c => .ok true c
def DTs (X : Cx) (xo : Xo) (ifs : List Expr) (t : T) : Prop := ∀ W, Takes X W → PTs X ifs (tG X.md xo rB t W)
theorem DTs.nil {X : Cx} {xo : Xo} : DTs X xo [] tYesD := fun W hW => ⟨fun pins s σ H Q I h => by
  obtain ⟨G, ev, c, k, hx, h⟩ := h
  exact pts_nil.run pins s σ H Q I (h true H .refl k.cell rfl)⟩
theorem DTs.one {X : Cx} {xo : Xo} {e : Expr} {t : T} (h : DT X xo e t) : DTs X xo [e] t := fun W hW => pts_one (h W hW)
abbrev W0 : WX := fun _ _ _ _ => False
theorem takes0 {X : Cx} : Takes X W0 := fun u s' ⟨a, B, sI, pins, σ, H, cls, d, e, I, nb, up, sky, na, os, ag, w⟩ => w.elim
theorem lc_read {M : Md} {G : Gd} {σ : St} {H1 : Hp} {ev : Env} {c1 : Int} {W : WX} {Q : VK} {xo : Xo} {p : Pt} {t : T} {e : E} {vs : List Nat} {J : It} {ds : List D} (hsl : p.slots.all (vs.contains ·) = true)
    (hx : G.xo = xo) (g1 : Gk M G σ H1 ev c1) (y : Yl M G.L (rstC (G.O σ ev) G.L H1) J ds)
    (h1 : PostF M G σ H1 ev W Q (if ownFree vs ev = true then R.noX ((lcL p t e (wipeE vs ev) ds c1).bind fun ys c => if ys.length ≤ sizeLine then .ok (.lst ys) c else .bad) else .bad)) :
    ∀ D, H1 D = none → ∃ Wi : Nat → Nat → Hp → Prop, (∃ m, Wi 0 m (upd H1 D (.lst []))) ∧ ∀ i m H, Wi i m H →
      (J.stop i H ∧ Q (.ref D) H) ∨ (J.go i H ∧ ∃ Nx : Hp → Prop, (∀ H', Nx H' → ∃ m', m' < m ∧ Wi (i + 1) m' H') ∧ ∀ x H', J.yld i H x H' → gPt M.K p x (wipe σ vs) H' fun σ2 H2 => wipe σ2 vs = wipe σ vs ∧ tG M xo rB t W0 σ2 H2 fun b H3 =>
        if b = true then tG M xo (rD M) e W0 σ2 H3 fun y H4 => ∃ acc, H4 D = some (.lst acc) ∧ acc.length < sizeLine ∧ Nx (upd H4 D (.lst (acc ++ [y]))) else Nx H3) := by
  intro D0 hD
  have hsl : ∀ i ∈ p.slots, i ∈ vs := fun i hi => by
    rw [List.all_eq_true] at hsl
    simpa using hsl i hi
  by_cases hof : ownFree vs ev = true
  · rw [if_pos hof] at h1
    have gw : Gk M G (wipe σ vs) H1 (wipeE vs ev) c1 := g1.wipe vs
    have hOw : G.O (wipe σ vs) (wipeE vs ev) = G.O σ ev := O_wipe vs hof g1.len
    have hne : ∀ b, G.L = some b → b ≠ D0 := fun b z e => by rw [e] at z; exact g1.ne0 (g1.lo _ z) hD
    -- the state at a turn
    have hO2 : ∀ (acc : List D) a, (G.tm ((D0, D.lst acc) :: G.Tm)).O (wipe σ vs) (wipeE vs ev) a ↔ (G.O σ ev a ∨ a = D0) := fun acc a => by
      rw [← hOw]
      constructor
      · rintro (z | z | z | z)
        · exact .inl (.inl z)
        · exact .inl (.inr (.inl z))
        · exact .inl (.inr (.inr (.inl z)))
        · rcases List.mem_cons.mp z with z | z
          · exact .inr z
          · exact .inl (.inr (.inr (.inr z)))
      · rintro ((z | z | z | z) | z)
        · exact .inl z
        · exact .inr (.inl z)
        · exact .inr (.inr (.inl z))
        · exact .inr (.inr (.inr (List.mem_cons_of_mem _ z)))
        · rw [z]; exact .inr (.inr (.inr List.mem_cons_self))
    have rest : ∀ {acc : List D} {H2 : Hp} {c2 : Int}, Gk M (G.tm ((D0, D.lst acc) :: G.Tm)) (wipe σ vs) H2 (wipeE vs ev) c2 → Sm G.L H1 H2 → rstC (G.O σ ev) G.L H1 H2 ((G.tm ((D0, D.lst acc) :: G.Tm)).O (wipe σ vs) (wipeE vs ev)) := fun {acc H2 c2} g s => by
      refine ⟨⟨fun a o e n => ⟨s a o e fun z => n (.inr (.inl z)), fun z => ?_⟩, fun a => g.tr⟩, s⟩
      rcases (hO2 acc a).mp z with z | z
      · exact n z
      · rw [z, hD] at e; cases e
    refine ⟨fun i m H2 => ∃ acc c2, m = ds.length - i ∧ i ≤ ds.length ∧ Gk M (G.tm ((D0, D.lst acc) :: G.Tm)) (wipe σ vs) H2 (wipeE vs ev) c2 ∧ Sm G.L H1 H2 ∧
      PostF M G σ H1 ev W Q (R.noX ((lcL p t e (wipeE vs ev) (ds.drop i) c2).bind fun ys c => if (acc ++ ys).length ≤ sizeLine then .ok (.lst (acc ++ ys)) c else .bad)), ⟨ds.length, [], c1, rfl, Nat.zero_le _, ?_, .of_same (same_updN hD), h1⟩, ?_⟩
    · exact (gw.push (.of_same (same_updN hD)) (gw.cell.same (same_updN hD)) hD upd_same (.lst .nil)).1
    rintro i m H2 ⟨acc, c2, rfl, hi, g2, s2, h2⟩
    by_cases hl : i < ds.length
    · right
      have ed : ds[i]? = some ds[i] := List.getElem?_eq_getElem hl
      rw [List.drop_eq_getElem_cons hl] at h2
      unfold lcL at h2
      refine ⟨y.go i H2 _ (rest g2 s2) hl, fun H3 => ∃ acc c3, Gk M (G.tm ((D0, D.lst acc) :: G.Tm)) (wipe σ vs) H3 (wipeE vs ev) c3 ∧ Sm G.L H1 H3 ∧
        PostF M G σ H1 ev W Q (R.noX ((lcL p t e (wipeE vs ev) (ds.drop (i + 1)) c3).bind fun ys c => if (acc ++ ys).length ≤ sizeLine then .ok (.lst (acc ++ ys)) c else .bad)), fun H' ⟨acc, c3, g3, s3, h3⟩ => ⟨ds.length - (i + 1), by omega, acc, c3, rfl, hl, g3, s3, h3⟩, fun x H3 yy => ?_⟩
      obtain ⟨sm, rx⟩ := y.yld i H2 _ _ x H3 (rest g2 s2) ed yy
      have g3 := g2.same sm
      have s3 : Sm G.L H1 H3 := s2.trans (.of_same sm)
      cases e1 : bindP p ds[i] (wipeE vs ev) with
      | none => rw [e1] at h2; exact h2.elim
      | some ev3 =>
        rw [e1] at h2
        dsimp only at h2
        refine gPt_ok p g3 rx e1 fun σ4 g4 F4 hw => ⟨(hw vs hsl).trans wipe_wipe, ?_⟩
        have hw4 : wipe σ4 vs = wipe σ vs := (hw vs hsl).trans wipe_wipe
        have sub4 : ∀ (acc : List D) a, (G.tm ((D0, D.lst acc) :: G.Tm)).O (wipe σ vs) (wipeE vs ev) a → (G.tm ((D0, D.lst acc) :: G.Tm)).O σ4 ev3 a := fun acc a z => by
          rcases z with z | z | ⟨j, d, q1, q2⟩ | z
          · exact .inl z
          · exact .inr (.inl z)
          · have hj : j ∉ vs := fun hj => by
              rw [wipeE_get] at q1
              by_cases q : j < ev.length
              · rw [if_pos ⟨hj, q⟩] at q1; cases q1
              · rw [if_neg (fun z => q z.2), List.getElem?_eq_none (by omega)] at q1; cases q1
            refine .inr (.inr (.inl ⟨j, d, by rw [bindP_out p e1 fun z => hj (hsl j z)]; exact q1, ?_⟩))
            have q3 : (wipe σ4 vs)[j]? = some (some (V.ref a)) := by rw [hw4]; exact q2
            rw [wipe_get, if_neg fun z => hj z.1] at q3
            exact q3
          · exact .inr (.inr (.inr z))
        have sG : (G.tm ((D0, D.lst acc) :: G.Tm)).xo = xo := hx
        refine tG.mk g4 sG ?_
        cases e2 : t ev3 c2 with
        | bad => rw [e2] at h2; exact h2
        | exc z c' => rw [e2] at h2; exact h2.elim
        | ok kb c4 =>
          rw [e2] at h2
          intro b H4 s4 k4 rb
          have rb : b = kb := rb
          subst rb
          have g4' := g4.sm s4 k4
          have s14 : Sm G.L H1 H4 := s3.trans s4
          cases b with
          | false =>
            rw [if_neg Bool.false_ne_true]
            exact ⟨acc, c4, g3.sm s4 k4, s14, h2⟩
          | true =>
            rw [if_pos rfl]
            refine tG.mk g4' sG ?_
            have h2 : PostF M G σ H1 ev W Q (R.noX (((e ev3 c4).bind fun y c => (lcL p t e (wipeE vs ev) (ds.drop (i + 1)) c).bind fun ys c => .ok (y :: ys) c).bind fun ys c => if (acc ++ ys).length ≤ sizeLine then .ok (.lst (acc ++ ys)) c else .bad)) := h2
            cases e3 : e ev3 c4 with
            | bad => rw [e3] at h2; exact h2
            | exc z c' => rw [e3] at h2; exact h2.elim
            | ok yd c5 =>
              rw [e3] at h2
              intro yv H5 s5 k5 ry
              have g5 := (g3.sm s4 k4).sm s5 k5
              have ry : Rep M H5 ((G.tm ((D0, D.lst acc) :: G.Tm)).O (wipe σ vs) (wipeE vs ev)) G.L yv yd := Rep.fz (fz_sub (sub4 acc)) (fun _ z => z) ry
              obtain ⟨h0, ho, q1, q2⟩ := g5.tm (D0, D.lst acc) List.mem_cons_self
              cases q2 with
              | lst q2 =>
                rename_i vsD
                have q2 : RepA M H5 ((G.tm ((D0, D.lst acc) :: G.Tm)).O (wipe σ vs) (wipeE vs ev)) G.L vsD acc := q2
                have h2 : PostF M G σ H1 ev W Q (R.noX (((lcL p t e (wipeE vs ev) (ds.drop (i + 1)) c5).bind fun ys c => .ok (yd :: ys) c).bind fun ys c => if (acc ++ ys).length ≤ sizeLine then .ok (.lst (acc ++ ys)) c else .bad)) := h2
                have h3 : PostF M G σ H1 ev W Q (R.noX ((lcL p t e (wipeE vs ev) (ds.drop (i + 1)) c5).bind fun ys c => if ((acc ++ [yd]) ++ ys).length ≤ sizeLine then .ok (.lst ((acc ++ [yd]) ++ ys)) c else .bad)) := by
                  cases e4 : lcL p t e (wipeE vs ev) (ds.drop (i + 1)) c5 with
                  | bad => rw [e4] at h2; exact h2
                  | exc z c' => rw [e4] at h2; exact h2
                  | ok ys c6 =>
                    rw [e4] at h2
                    have e : (acc ++ [yd]) ++ ys = acc ++ yd :: ys := by simp
                    show PostF M G σ H1 ev W Q (R.noX (if ((acc ++ [yd]) ++ ys).length ≤ sizeLine then .ok (.lst ((acc ++ [yd]) ++ ys)) c6 else .bad))
                    rw [e]
                    exact h2
                have hlen : vsD.length < sizeLine := by
                  cases e4 : lcL p t e (wipeE vs ev) (ds.drop (i + 1)) c5 with
                  | bad => rw [e4] at h3; exact h3.elim
                  | exc z c' => rw [e4] at h3; exact h3.elim
                  | ok ys c6 =>
                    rw [e4] at h3
                    have h3 : PostF M G σ H1 ev W Q (R.noX (if ((acc ++ [yd]) ++ ys).length ≤ sizeLine then .ok (.lst ((acc ++ [yd]) ++ ys)) c6 else .bad)) := h3
                    by_cases hz : ((acc ++ [yd]) ++ ys).length ≤ sizeLine
                    · have ll := RepA.length q2
                      simp only [List.length_append, List.length_cons, List.length_nil] at hz
                      omega
                    · rw [if_neg hz] at h3; exact h3.elim
                refine ⟨vsD, q1, hlen, acc ++ [yd], c5, g5.updTm (.lst (q2.append (.cons ry .nil))), ?_, h3⟩
                intro a o e n
                by_cases ha : a = D0
                · rw [ha, hD] at e; cases e
                · rw [upd_ne ha]; exact s5 a o (s14 a o e n) n
    · left
      have e0 : i = ds.length := by omega
      subst e0
      rw [List.drop_length] at h2
      refine ⟨y.stop H2 _ (rest g2 s2), ?_⟩
      have h2 : PostF M G σ H1 ev W Q (R.noX (if (acc ++ []).length ≤ sizeLine then .ok (.lst (acc ++ [])) c2 else .bad)) := h2
      rw [List.append_nil] at h2
      by_cases hz : acc.length ≤ sizeLine
      · rw [if_pos hz] at h2
        obtain ⟨h0, ho, q1, q2⟩ := g2.tm (D0, D.lst acc) List.mem_cons_self
        refine h2 D0 ho H2 s2 g2.cell hD q1 ?_
        have eO : (G.tm ((D0, D.lst acc) :: G.Tm)).O (wipe σ vs) (wipeE vs ev) = fun b => G.O σ ev b ∨ b = D0 := funext fun b => propext (hO2 acc b)
        rw [← eO]
        exact q2
      · rw [if_neg hz] at h2; exact h2.elim
  · rw [if_neg hof] at h1; exact h1.elim
section
variable {X : Cx} {xo : Xo} {lo : Bool} {tg iter elt : Expr} {ifs : List Expr} {scope : Scope} {own : List (Str × Nat)} {vs : List Nat} {fi : EL} {p : Pt} {t : T} {f : E} {pos : Pos} {B : Blk}
/-- the block of a comprehension -/
def Blk.in (B : Blk) (scope : Scope) : Blk := ⟨relS scope B.sc, B.N, fun x => scope.names.lookup x == some .cell⟩
/-- what holds in each context of the block -/
def InB (X : Cx) (scope : Scope) (P : Cx → Prop) : Prop := ∀ (s : Shared) (H : Hp) (C : Addr) (cl : List (Str × Addr)) (fp : List Addr), P (X.blk s H scope (compEnvC scope cl C X.env) fp)
theorem ScX.in (S : ScX X B) (scope : Scope) (s : Shared) (H : Hp) (C : Addr) (cl : List (Str × Addr)) (fp : List Addr) : ScX (X.blk s H scope (compEnvC scope cl C X.env) fp) (B.in scope) where
  sc := by
    show relS scope X.env.scope = relS scope B.sc
    rw [S.sc]
  N := S.N
  nd := S.nd
  calm := S.calm
  fn := fun x h => h
theorem CallOk.in {x : Str} {F : Fn} (C : CallOk X x F) (s : Shared) (H : Hp) (L : Addr) (cl : List (Str × Addr)) (fp : List Addr) : CallOk (X.blk s H scope (compEnvC scope cl L X.env) fp) x F := C
theorem ScX.ok (S : ScX X B) (h : blkC B.N B.sc scope own = true) : BlkOk X.N X.env.scope scope own := by
  rw [S.N, S.sc]
  exact blkOk_by h
theorem ScX.lc (S : ScX X B) (own : List (Str × Nat)) (hi : DIc X xo tg iter fi) (ok : blkC B.N B.sc scope own = true) (hv : own.map (·.2) = vs) (hsl : p.slots.all (vs.contains ·) = true) (hg : InB X scope fun X' => DG X' tg p) (ht : InB X scope fun X' => DTs X' xo ifs t) (he : InB X scope fun X' => DE X' xo elt f)
    (hs : ∀ x, foldedSetIterable iter X.env x = pure x := by intro _; rfl) : DF X xo (.ListComp elt [⟨tg, iter, ifs, 0⟩] scope pos) (eLc fi p t f vs) := fun W hW => by
  subst hv
  have hg' : ∀ (s : Shared) (H : Hp) (C : Addr) (cl : List (Str × Addr)) (fp : List Addr), PG (X.blk s H scope (compEnvC scope cl C X.env) fp) tg (gPt X.K p) := hg
  have ht' : ∀ (s : Shared) (H : Hp) (C : Addr) (cl : List (Str × Addr)) (fp : List Addr), PTs (X.blk s H scope (compEnvC scope cl C X.env) fp) ifs (tG X.md xo rB t W0) := fun s H C cl fp => ht s H C cl fp W0 takes0
  have he' : ∀ (s : Shared) (H : Hp) (C : Addr) (cl : List (Str × Addr)) (fp : List Addr), PE (X.blk s H scope (compEnvC scope cl C X.env) fp) elt (tG X.md xo (rD X.md) f W0) := fun s H C cl fp => he s H C cl fp W0 takes0
  refine PEimp (pe_lc S.calm S.nd (hi W hW) (S.ok ok) hg' ht' he' hs) fun σ H Q h => ?_
  obtain ⟨G, ev, c, k, hx, h⟩ := h
  exact tG.mk k hx (PostF.bind k h fun ds c1 J H1 s1 k1 g1 y h1 => lc_read hsl hx g1 y h1)
/-- name = [..] on one line -/
theorem ScX.ownLc (S : ScX X B) (i : Nat) {x : Str} {py spos : Pos} (hxt : B.tgt i x = true) (hxl : kL (B.sc.names.lookup x) = true) (own : List (Str × Nat)) (hi : DIc X xo tg iter fi) (ok : blkC B.N B.sc scope own = true) (hv : own.map (·.2) = vs) (hsl : p.slots.all (vs.contains ·) = true) (hg : InB X scope fun X' => DG X' tg p) (ht : InB X scope fun X' => DTs X' xo ifs t) (he : InB X scope fun X' => DE X' xo elt f)
    (hsw : swapsWith (.ListComp elt [⟨tg, iter, ifs, 0⟩] scope pos) (some (.Name x py)) spos.line X.env = pure true)
    (hs : ∀ x, foldedSetIterable iter X.env x = pure x := by intro _; rfl) : DS X xo lo (.Assign [.Name x py] (.ListComp elt [⟨tg, iter, ifs, 0⟩] scope pos) spos) (sOwn i (eLc fi p t f vs)) := fun W hW => by
  subst hv
  have hg' : ∀ (s : Shared) (H : Hp) (C : Addr) (cl : List (Str × Addr)) (fp : List Addr), PG (X.blk s H scope (compEnvC scope cl C X.env) fp) tg (gPt X.K p) := hg
  have ht' : ∀ (s : Shared) (H : Hp) (C : Addr) (cl : List (Str × Addr)) (fp : List Addr), PTs (X.blk s H scope (compEnvC scope cl C X.env) fp) ifs (tG X.md xo rB t W0) := fun s H C cl fp => ht s H C cl fp W0 takes0
  have he' : ∀ (s : Shared) (H : Hp) (C : Addr) (cl : List (Str × Addr)) (fp : List Addr), PE (X.blk s H scope (compEnvC scope cl C X.env) fp) elt (tG X.md xo (rD X.md) f W0) := fun s H C cl fp => he s H C cl fp W0 takes0
  obtain ⟨hN, _, _⟩ := S.tgtN hxt
  refine PSimp (ps_setLc S.calm S.nd hN (by rw [S.sc]; exact kL_ok hxl) hsw (hi W hW) (S.ok ok) hg' ht' he' hs) fun D' σ H h => ?_
  obtain ⟨G, ev, c, k, hx, h⟩ := h
  exact tG.mk k hx (PostF.bind k (PostF.toS k h) fun ds c1 J H1 s1 k1 g1 y h1 => lc_read (Q := fun x H1 => gName i x σ H1 D'.nx) hsl hx g1 y h1)
theorem Post.toF {M : Md} {G : Gd} {σ : St} {H : Hp} {ev : Env} {c : Int} {W : WX} {Q : VK} {r : R D} (k : Gk M G σ H ev c) (h : Post M G σ H ev W (rD M (G.O σ ev) G.L) Q r) : PostF M G σ H ev W Q r := by
  cases r with
  | ok d c' => exact fun a ho H' s k1 n ha r => h _ H' s k1 ((r.fz (fz_sub fun b z => .inl z) fun _ z => z).rep ha fun z => k.tr z n)
  | exc x c' => exact h
  | bad => exact h
theorem ScX.setLc (S : ScX X B) (i : Nat) {x : Str} {py spos : Pos} (hxt : B.tgt i x = true) (hxl : kL (B.sc.names.lookup x) = true) (own : List (Str × Nat)) (hi : DIc X xo tg iter fi) (ok : blkC B.N B.sc scope own = true) (hv : own.map (·.2) = vs) (hsl : p.slots.all (vs.contains ·) = true) (hg : InB X scope fun X' => DG X' tg p) (ht : InB X scope fun X' => DTs X' xo ifs t) (he : InB X scope fun X' => DE X' xo elt f)
    (hsw : swapsWith (.ListComp elt [⟨tg, iter, ifs, 0⟩] scope pos) (some (.Name x py)) spos.line X.env = pure true)
    (hs : ∀ x, foldedSetIterable iter X.env x = pure x := by intro _; rfl) : DS X xo lo (.Assign [.Name x py] (.ListComp elt [⟨tg, iter, ifs, 0⟩] scope pos) spos) (sSet i (eLc fi p t f vs)) := fun W hW => by
  subst hv
  have hg' : ∀ (s : Shared) (H : Hp) (C : Addr) (cl : List (Str × Addr)) (fp : List Addr), PG (X.blk s H scope (compEnvC scope cl C X.env) fp) tg (gPt X.K p) := hg
  have ht' : ∀ (s : Shared) (H : Hp) (C : Addr) (cl : List (Str × Addr)) (fp : List Addr), PTs (X.blk s H scope (compEnvC scope cl C X.env) fp) ifs (tG X.md xo rB t W0) := fun s H C cl fp => ht s H C cl fp W0 takes0
  have he' : ∀ (s : Shared) (H : Hp) (C : Addr) (cl : List (Str × Addr)) (fp : List Addr), PE (X.blk s H scope (compEnvC scope cl C X.env) fp) elt (tG X.md xo (rD X.md) f W0) := fun s H C cl fp => he s H C cl fp W0 takes0
  obtain ⟨hN, _, _⟩ := S.tgtN hxt
  refine PSimp (ps_setLc S.calm S.nd hN (by rw [S.sc]; exact kL_ok hxl) hsw (hi W hW) (S.ok ok) hg' ht' he' hs) fun D' σ H h => ?_
  obtain ⟨G, ev, c, k, hx, h⟩ := h
  have h2 : Post X.md G σ H ev W (rD X.md (G.O σ ev) G.L) (fun x H1 => gName i x σ H1 D'.nx) (eLc fi p t f (own.map (·.2)) ev c) := PostS.bind k h fun d c1 v H1 s1 k1 g1 r1 h1 => h1 _ _ (g1.setVal r1).1 (g1.setVal r1).2
  exact tG.mk k hx (PostF.bind k (Post.toF k h2) fun ds c1 J H1 s1 k1 g1 y h1 => lc_read (Q := fun x H1 => gName i x σ H1 D'.nx) hsl hx g1 y h1)
/-- a scope's own environment: what leans on the scope alone is read there -/
def E0 (sc : Scope) : PySem.Env := PyProof.Rows.envOfC "" sc 0 0 .none
theorem ScX.sw (S : ScX X B) {e : Expr} {tg : Option Expr} {l : Nat} {r : Sem Bool} (h : swapsWith e tg l (E0 B.sc) = r) : swapsWith e tg l X.env = r := by
  rw [← h, ← S.sc]; rfl
theorem ScX.ss (S : ScX X B) {ts : List Expr} {e : Expr} {r : Sem (Option (List Str))} (h : swappedStores ts e (E0 B.sc) = r) : swappedStores ts e X.env = r := by
  rw [← h, ← S.sc]; rfl
theorem ScX.sws (S : ScX X B) {t e : Expr} {l : Nat} {r : Sem Bool} (h : swapsWith e (some t) l (E0 B.sc) = r) : swapsWithSole [t] e l X.env = r := S.sw h
end

/-! ### slices -/
def cutD (xs : List D) (lo hi : Option Int) : List D := (xs.drop (HT.sIx xs.length 0 lo)).take (HT.sIx xs.length xs.length hi - HT.sIx xs.length 0 lo)
def dSl : D → Option Int → Option Int → Option D
  | .lst xs, lo, hi => some (.lst (cutD xs lo hi))
  | .tup xs, lo, hi => some (.tup (cutD xs lo hi))
  | .scr ns, lo, hi => some (.lst (cutD (ns.map .int) lo hi))
  | .str z, lo, hi => if z.length ≤ sizeLine then some (.str (cutS z lo hi)) else none
  | _, _, _ => none
def rSlD (M : Md) : V → Option Int → Option Int → Hp → VK → Prop := fun x lo hi H Q => ∃ (O : Addr → Prop) (L : Option Addr) (dx d : D), (∀ a, O a → H a ≠ none) ∧ RepB M H O L x dx ∧ dSl dx lo hi = some d ∧ ∀ z H', Same H H' → Rep M H' O L z d → Q z H'
theorem RepA.cut {M : Md} {H : Hp} {O : Addr → Prop} {L : Option Addr} {vs : List V} {ds : List D} {lo hi : Option Int} (h : RepA M H O L vs ds) : RepA M H O L (cutV vs lo hi) (cutD ds lo hi) := by
  unfold cutV cutD
  rw [RepA.length h]
  exact (h.drop _).take _
theorem cutD_whole {ds : List D} {lo hi : Option Int} (h : HT.sIx ds.length 0 lo = 0 ∧ HT.sIx ds.length ds.length hi = ds.length) : cutD ds lo hi = ds := by
  unfold cutD
  rw [h.1, h.2]
  simp
theorem sl_d {X : Cx} : SlR X (rSlD X.md) := by
  intro pins s σ H x v vl vu lo hi sl Q I rx hs pl pu ⟨O, L, dx, d, hO, hx, e, q⟩
  unfold dSl at e
  split at e
  · obtain ⟨a, vs, rfl, h1, h2⟩ := hx.lst_eq
    cases e
    exact sl_list pins s σ H _ v vl vu _ _ sl Q I rx hs pl pu ⟨a, vs, rfl, .of h1, fun p np => q _ _ (same_updN np) (.lst upd_same (fun z => hO _ z np) (h2.cut.upd np))⟩
  · obtain ⟨a, vs, rfl, h1, h2⟩ := hx.tup_eq
    cases e
    refine sl_tupA pins s σ H _ v vl vu _ _ sl Q I rx hs pl pu ⟨a, vs, rfl, h1, fun hw => ?_, fun _ p np => q _ _ (same_updN np) (.tup upd_same (fun z => hO _ z np) (h2.cut.upd np))⟩
    rw [RepA.length h2] at hw
    rw [cutD_whole hw] at q
    exact q _ _ (Same.refl _) (hx.rep rfl)
  · rename_i ns lo hi
    obtain ⟨a, rfl, h1⟩ := hx.scr_eq
    cases e
    exact sl_list pins s σ H _ v vl vu _ _ sl Q I rx hs pl pu ⟨a, _, rfl, h1, fun p np => q _ _ (same_updN np) (.lst upd_same (fun z => hO _ z np) ((repInts (M := X.md) (O := O) (L := L) (H := H)).cut.upd np))⟩
  · obtain rfl := hx.str_eq
    split at e <;> cases e
    rename_i hz
    exact sl_str pins s σ H _ v vl vu _ _ sl Q I rx hs pl pu ⟨_, rfl, hz, q _ _ (Same.refl _) (.str _)⟩
  · cases e
abbrev OF := Env → Int → R (Option Int)
abbrev rO : Rl (Option Int) (Option Int) := fun _ _ _ b b' => b = b'
def oNo : OF := fun _ c => .ok none c
def oSo (e : E) : OF := fun ev c => (e ev c).bind fun d c => match d with
  | .int i => .ok (some i) c
  | _ => .bad
def DO (X : Cx) (xo : Xo) (e : Option Expr) (f : OF) : Prop := ∀ W, Takes X W → PO X e (tG X.md xo rO f W)
def eSl (e : E) (l h : OF) : E := fun ev c => (e ev c).bind fun d c => (l ev c).bind fun lo c => (h ev c).bind fun hi c => R.of (dSl d lo hi) c
section
variable {X : Cx} {xo : Xo} {e : Expr} {fe : E} {lo hi : Option Expr} {fl fh : OF} {p2 pos : Pos}
theorem DO.non : DO X xo Option.none oNo := fun W hW => ⟨fun pins s σ H Q I h => by
  obtain ⟨G, ev, c, k, hx, h⟩ := h
  exact po_none.run pins s σ H Q I (h Option.none H .refl k.cell rfl)⟩
theorem DO.sm (he : DB X xo e fe) : DO X xo (some e) (oSo fe) := fun W hW => ⟨fun pins s σ H Q I h => by
  obtain ⟨G, ev, c, k, hx, h⟩ := h
  refine (po_some (he W hW)).run pins s σ H Q I (tG.mk k hx (Post.bind h fun d c1 v H1 s1 k1 r1 h1 => ?_))
  have r1' : RepB X.md H1 (G.O σ ev) G.L v d := r1
  split at h1
  · obtain rfl := r1'.int_eq
    exact ⟨_, rfl, h1 _ H1 .refl k1 rfl⟩
  · exact h1.elim⟩
theorem DE.sl (he : DB X xo e fe) (hl : DO X xo lo fl) (hh : DO X xo hi fh) : DE X xo (.Subscript e (.Slice lo hi none p2) pos) (eSl fe fl fh) := fun W hW => by
  refine PEimp (pe_slice sl_d (he W hW) (hl W hW) (hh W hW)) fun σ H Q h => ?_
  obtain ⟨G, ev, c, k, hx, h⟩ := h
  refine tG.mk k hx (Post.bind h fun d c1 v H1 s1 k1 r1 h1 => ?_)
  have g1 := k.sm s1 k1
  refine tG.mk g1 hx (Post.bind (rel' := rO (G.O σ ev) G.L) h1 fun l c2 l' H2 s2 k2 r2 h2 => ?_)
  cases (show l' = l from r2)
  have g2 := g1.sm s2 k2
  refine tG.mk g2 hx (Post.bind (rel' := rO (G.O σ ev) G.L) h2 fun u c3 u' H3 s3 k3 r3 h3 => ?_)
  cases (show u' = u from r3)
  obtain ⟨d', e, q⟩ := Post.op (g2.sm s3 k3) h3
  exact ⟨G.O σ ev, G.L, d, d', fun a => (g2.sm s3 k3).tr, RepB.sm s3 (RepB.sm s2 r1), e, q⟩
end
end DW

set_option Elab.async false
set_option linter.all false
set_option maxRecDepth 100000
set_option maxHeartbeats 4000000
/-! DWX: an own error over ValueError whose __init__ says super().__init__(x); self.f = x. -/
namespace PySem
namespace DWX
open PySem.W PySem.Calls PyProof.Rows PySem.HandSPX
/-! ### the text of __init__ -/
def iA (p : Str) (p1 p2 : Pos) : Arguments := { posonlyargs := [], args := [{ arg := "self", annotation := none, pos := p1 }, { arg := p, annotation := none, pos := p2 }], vararg := none, kwonlyargs := [], kw_defaults := [], kwarg := none, defaults := [] }
def iB (p : Str) (q0 q1 q2 q3 q4 q5 q6 q7 q8 q9 : Pos) : List Stmt :=
  [.Expr (.Call (.Attribute (.Call (.Name "super" q0) [] [] q1) "__init__" q2) [.Name p q3] [] q4) q5, .Assign [.Attribute (.Name "self" q6) p q7] (.Name p q8) q9]
/-- what the written part says of the error's class, at C, and of the __init__ that it has, at fI (of the class at Dc) -/
structure ErrTxt (prog : Program) (K : Frag) (C Dc fI cc cda : Addr) (p : Str) : Prop where
  cls : ∃ nm q N bs bm sn sub ab col dd k0 k1 k2 k3 k5, K.lookup C = some (excClassObj nm q C N bs bm true sn sub ab col dd k0 k1 k2 k3 k5 "ValueError.__new__") ∧ refsVE bm = true
  sa : findIn K (.ref C) "__setattr__" = some (some (.builtin "object.__setattr__"))
  noN : findIn K (.ref C) p = some none
  iC : findIn K (.ref C) "__init__" = some (some (.ref fI))
  tC : typeIn K (.ref fI) = some (.type "function")
  kC : keepIn K (.ref C) = true
  exC : subIn K (.ref C) (.type "BaseException") = some true
  tyC : typeIn K (.ref C) = some (.type "type")
  hm : ks_superIn K C Dc "__init__" = some (some (.builtin "ValueError.__init__"))
  hB : subIn K (.ref C) (.type "ValueError") = some true
  ho : nsIn K cStatics "thirdparty.any" = some none
  hD : ∃ cdD, clsIn K Dc = some cdD
  hsub : mroIn K C (.ref Dc) = some true
  cell : ∃ cl cld csl, K.lookup cc = some ⟨cl, cld, .cell (some (.ref Dc)), csl⟩
  code : ∃ ccl cdd vs ccs file tf, K.lookup cda = some ⟨ccl, cdd, .fields vs, ccs⟩ ∧ vs[2]? = some (.str file tf) ∧ ((prog.main.file : Str) == file) = true
  top : (prog.main.scope.names.lookup ("super" : Str)).isSome = false
  fn : ∃ (oc : Value) (od : Option Addr) (qual : Str) (sc : Scope) (doc pm : Value) (an : Option Addr) (ct : Value) (osl : Array (Option Value)) (p1 p2 q0 q1 q2 q3 q4 q5 q6 q7 q8 q9 : Pos),
    K.lookup fI = some ⟨oc, od, .func (ksFn "__init__" qual (iA p p1 p2) (iB p q0 q1 q2 q3 q4 q5 q6 q7 q8 q9) sc .none .none doc pm an (.ref cda) ct cc), osl⟩ ∧ codeIn K (.ref cda) qual = true ∧
    sc.kind = .function ∧ sc.isCoroutine = false ∧ sc.isGenerator = false ∧ (∀ x ∈ sc.names, x.2 ≠ .cell) ∧ sc.names.lookup ("super" : Str) = some .globalImplicit ∧ sc.names.lookup ("__class__" : Str) = some .free ∧
    sc.names.lookup ("self" : Str) = some .local ∧ sc.names.lookup p = some .local ∧ p ≠ "self" ∧ (p == ("__debug__" : Str)) = false ∧
    (∀ x v : Value, bindArgs (ksFn "__init__" qual (iA p p1 p2) (iB p q0 q1 q2 q3 q4 q5 q6 q7 q8 q9) sc .none .none doc pm an (.ref cda) ct cc) { pos := [x, v] } = pure [(("self" : Str), x), (p, v)]) ∧
    ∀ env : Env, ∃ pl : Sem Bool, eval (.Call (.Attribute (.Call (.Name "super" q0) [] [] q1) "__init__" q2) [.Name p q3] [] q4) env = (do
      let ov ← attributeBase (.Call (.Name "super" q0) [] [] q1) "__init__" env (eval (.Call (.Name "super" q0) [] [] q1) env)
      standAt q2.atName
      let (f, first) ← holding [ov] (getMethod ov "__init__" pl)
      callWith q4 f first (backTo q4 (starEach [.Name p q3] env)) [])
section
variable {prog : Program} {w : World} {A : Around} {E : Value → Shared → Prop} {R : Result → Shared → Prop} {s : Shared} {K : Frag} {mg : Str → Option Value} {C Dc fI cc cda : Addr} {p : Str}
theorem LdN {M : Model} {env : Env} {m : Str → Option Value} {x : Str} {pos : Pos} {v : Value} {Q : Value → Shared → Prop} (hn : s.heap.Ns env.locals m) (hv : m x = some v) (h : Q v s)
    (hk : env.scope.kind = .function) (hl : env.scope.names.lookup x = some .local) (hd : (x == ("__debug__" : Str)) = false) : wpAny M A (eval (.Name x pos) env) Q E s := wpAny_Name (wpAny_loadName_local hk hl hn hv h) hd
/-- the wrapper of ValueError.__init__, called -/
theorem call_bw {h : Heap} {g : Array GenState} {d : Drawn} {t : Nat} {os : OsState} {nm q : Str} {N : Addr} {bs bm : List Value} {hdct : Bool} {sn : List Str} {sub : List Value} {ab : Bool} {col : Option Bool} {dd : Option Addr} {k0 k1 k2 k3 k5 : Option Value} {u e t0 : Addr} {rest : List Value} {Q : Value → Shared → Prop}
    (hC : h.get? C = some (excClassObj nm q C N bs bm hdct sn sub ab col dd k0 k1 k2 k3 k5 "ValueError.__new__")) (he : h.get? e = some (excO C t0)) (hu : h.get? u = some (kxs_mw "ValueError.__init__" e)) (hrest : rest.length ≤ sizeLine)
    (hq : ∀ h' t1, (∀ b o, b ≠ e → h.get? b = some o → h'.get? b = some o) → h'.get? e = some (excO C t1) → Q .none ⟨h', g, d, t, os⟩) :
    wpAny (model prog w) A (call (.ref u) rest) Q E ⟨h, g, d, t, os⟩ := by
  refine wpAny_call (codeAny_of_tree ?_)
  show wpAny _ A.in1 (callAny (.ref u) ⟨rest, []⟩) _ _ _
  simp only [callAny]
  refine wpAny_bind (wpAny_load hu ?_)
  simp only [kxs_mw, show (Value.type "method-wrapper" == Value.type "method" || Value.type "method-wrapper" == Value.type "builtin_function_or_method" || Value.type "method-wrapper" == Value.type "method-wrapper") = true by decide, if_true]
  refine W.KFB.if_so (by decide) ?_
  refine wpAny_bind (check_bound_init F.excBase_ValueError.toExcCallFacts hC he rfl ?_)
  refine wpAny_bind (wpAny_pure (wpAny_pure ?_))
  refine ⟨Code.quiet_builtin _ (by decide +kernel), codeAny_builtin F.excBase_ValueError.initEntry ?_⟩
  rw [Around.under_plainId F.excBase_ValueError.init.plain _]
  wp_walk
  refine hq _ h.objs.size (fun b o hb ho => ?_) ?_
  · rw [Heap.get?_update_other _ _ (Ne.symm hb)]
    exact Heap.get?_push_of_some _ ho
  · rw [Heap.get?_update_self _ (Heap.get?_push_of_some _ he) rfl]
    rfl
/-- what __init__ leaves of a fresh exception at x -/
structure InitEnd (h h' : Heap) (x C dx t1 : Addr) (p : Str) (v : Value) : Prop where
  keep : ∀ b o, b ≠ x → h.get? b = some o → h'.get? b = some o
  obj : h'.get? x = some { cls := .ref C, dict := some dx, data := .fields #[.ref t1, .none, .none, .none, .bool false, .none] }
  dbig : h.objs.size ≤ dx
  dne : dx ≠ x
  ns : h'.Ns1 dx (fun y => if y = p then some v else none)
theorem err_init (T : ErrTxt prog K C Dc fI cc cda p) {x t0 : Addr} {v : Value} (X : K.In s.heap) (hlim : s.heap.NoLimit) (hG : s.heap.Ns mainGlobals mg) (hsu : mg "super" = none)
    (hbt : ∃ mb, s.heap.Ns builtinsNs mb ∧ mb "super" = some (.type "super")) (hx : s.heap.get? x = some (excO C t0)) (hnx : K.lookup x = none) (hroom : A.depth < recursionLimit)
    (hq : ∀ h' tk dx t1, InitEnd s.heap h' x C dx t1 p v → R (.ok (.ret .none)) { s with heap := h', toks := tk }) :
    codeAny (model prog w) A (.call (.ref fI) ⟨[.ref x, v], []⟩) R s := by
  obtain ⟨oc, od, qual, sc, doc, pm, an, ct, osl, p1, p2, q0, q1, q2, q3, q4, q5, q6, q7, q8, q9, hof, hcd, hk, hco, hgen, hcell, hls, hlc, hlx, hlp, hne, hdb, hbind, he⟩ := T.fn
  obtain ⟨nm, q, N, bs, bm, sn, sub, ab, col, dd, k0, k1, k2, k3, k5, hC, hbm⟩ := T.cls
  have hcl : clsIn K C = some { name := nm, bases := bs, mro := .ref C :: bm, ns := N, qualname := q, hasDict := true, slotNames := sn, subclasses := sub, abstract := ab, collection := col, hasDel := false } := by unfold clsIn; rw [hC] <;> rfl
  refine ks_codeAny_call_defAt (fd := ksFn "__init__" qual (iA p p1 p2) (iB p q0 q1 q2 q3 q4 q5 q6 q7 q8 q9) sc .none .none doc pm an (.ref cda) ct cc) (body := iB p q0 q1 q2 q3 q4 q5 q6 q7 q8 q9) (binds := [("self", .ref x), (p, v)])
    hroom (X _ _ hof) rfl hlim (codeRec_of X hcd) rfl (BindsTo.of_eq (hbind _ _)) hcell (fun y hy => ?_) (fun h₁ hns k => ?_) hco hgen hk
  · rcases List.mem_cons.mp hy with rfl | hy
    · exact hlx
    · rcases List.mem_cons.mp hy with rfl | hy
      · exact hlp
      · cases hy
  have X₁ : K.In h₁ := X.keeps k
  have hx₁ := k _ _ hx
  have hvx : (([(("self" : Str), Value.ref x), (p, v)] : List (Str × Value)).reverse).lookup ("self" : Str) = some (.ref x) := by
    have e : (("self" : Str) == p) = false := by simpa using fun z => hne z.symm
    show List.lookup ("self" : Str) [(p, v), (("self" : Str), Value.ref x)] = _
    rw [List.lookup_cons, e]
    simp [List.lookup]
  have hvp : (([(("self" : Str), Value.ref x), (p, v)] : List (Str × Value)).reverse).lookup p = some v := by
    show List.lookup p [(p, v), (("self" : Str), Value.ref x)] = _
    simp [List.lookup]
  have xL : x < s.heap.objs.size := Heap.lt_size hx
  obtain ⟨cdD, hD⟩ := T.hD
  obtain ⟨oD, hD1, hD2⟩ : ∃ oD, h₁.get? Dc = some oD ∧ oD.data = .cls cdD := by
    unfold clsIn at hD
    split at hD
    · rename_i c d cd' sl ho
      cases hD
      exact ⟨_, X₁ _ _ ho, rfl⟩
    · cases hD
  obtain ⟨cl, cld, csl, hcell'⟩ := T.cell
  obtain ⟨ccl, cdd, vs, ccs, file, tf, hcode, hvs, hfile⟩ := T.code
  obtain ⟨mb, hB1, hB2⟩ := hbt
  have I₁ : InstAt h₁ x (excO C t0) C none := ⟨hx₁, rfl, rfl, trivial⟩
  obtain ⟨hp, g, d, tk, os⟩ := s
  show _root_.PySem.wpAt (model prog w) (A.deeper (ksEnv qual sc hp.objs.size fI (.ref cda) cc)) (.func (iB p q0 q1 q2 q3 q4 q5 q6 q7 q8 q9) (ksEnv qual sc hp.objs.size fI (.ref cda) cc)) (execs (iB p q0 q1 q2 q3 q4 q5 q6 q7 q8 q9) (ksEnv qual sc hp.objs.size fI (.ref cda) cc)) _ _ ⟨h₁, g, d, _, os⟩
  obtain ⟨pl, he⟩ := he (ksEnv qual sc hp.objs.size fI (.ref cda) cc)
  have hint : interactive (ksEnv qual sc hp.objs.size fI (.ref cda) cc) = false := by
    unfold interactive
    show (sc.kind == .module && _) = false
    rw [hk]
    rfl
  refine ks_wpAt_execs_cons (ks_wpAt_Expr_any (ks_wpAt_MethodCall ?_ he) hint)
  refine ks_wpAt_super_base (env := ksEnv qual sc hp.objs.size fI (.ref cda) cc) hls hlc (by decide) rfl (X₁ _ _ hof) rfl rfl rfl (X₁ _ _ hcode) rfl hvs hfile T.top ?_
  refine ks_loadName_global hk hls (loadGlobal_builtin (env := ksEnv qual sc hp.objs.size fI (.ref cda) cc) (hG.keeps k) hsu (hB1.keeps k) hB2 ⟨rfl, ?_⟩)
  refine wpAny_loadName_free hk hlc rfl ⟨_, X₁ _ _ hcell', rfl⟩ ?_
  refine wpAny_loadName_local hk hlx hns hvx ?_
  refine ks_wpAny_isType_cls hD1 hD2 ⟨rfl, ?_⟩
  refine ks_wpAny_call_super hD1 hD2 I₁.at_ I₁.cls (fun c e => ?_) (looks_mroIn X₁ T.hsub) (fun h₂ e₂ k₂ => ?_)
  · have z : (excO C t0).data = .cls c := e
    cases z
  have X₂ : K.In h₂ := X₁.keeps k₂
  have hx₂ := k₂ _ _ hx₁
  have I₂ : InstAt h₂ x (excO C t0) C none := ⟨hx₂, rfl, rfl, trivial⟩
  have hI : Looks (model prog w) h₂ (isInstance (.ref x) (.type "ValueError")) true := I₂.type.andThen (looks_subIn X₂ T.hB)
  have hm := T.hm
  unfold ks_superIn at hm
  rw [hcl] at hm
  refine kxs_getMethod kxs_ValueError e₂ (looks_opaque X₂ T.ho) (l₀ := .ref C :: bm) (fun A Q E s k q => wpAny_bind ((looks_clsIn X₂ hcl) A _ E s k (wpAny_pure q))) rfl X₂ hm hI (ks_ne X₂ I₂ hcl) (by decide) ?_
  -- super().__init__ is the wrapper; it is called
  have hu : (h₂.push (kxs_mw "ValueError.__init__" x)).get? h₂.objs.size = some (kxs_mw "ValueError.__init__" x) := Heap.get?_push_size _ rfl
  have k₃ : ∀ b o, h₂.get? b = some o → (h₂.push (kxs_mw "ValueError.__init__" x)).get? b = some o := fun b o e => Heap.get?_push_of_some _ e
  have hL₃ : (h₂.push (kxs_mw "ValueError.__init__" x)).Ns hp.objs.size (fun y => (([(("self" : Str), Value.ref x), (p, v)] : List (Str × Value)).reverse).lookup y) := (hns.keeps k₂).keeps k₃
  dsimp only
  refine kxs_callWith (i := "ValueError.__init__") (x := x) rfl ?_
  refine evalArgs_plain ?_
  refine spliced_cons (LdN hL₃ hvp (spliced_nil ⟨hu, ?_⟩) hk hlp hdb)
  have X₃ : K.In (h₂.push (kxs_mw "ValueError.__init__" x)) := X₂.keeps k₃
  refine call_bw (rest := [v]) (X₃ _ _ hC) (k₃ _ _ hx₂) hu (by rw [sizeLine_eq]; exact (by decide : 1 ≤ 16777216)) fun h₄ t1 k₄ hx₄ => ?_
  have xn : x ≠ hp.objs.size := Nat.ne_of_lt xL
  have L4 : hp.objs.size ≠ x := fun z => xn z.symm
  have hL₄ : h₄.Ns hp.objs.size (fun y => (([(("self" : Str), Value.ref x), (p, v)] : List (Str × Value)).reverse).lookup y) := hL₃.at fun o e => k₄ _ _ L4 e
  have keep14 : ∀ b o, b ≠ x → hp.get? b = some o → h₄.get? b = some o := fun b o hb e => k₄ b o hb (k₃ b o (k₂ b o (k b o e)))
  have X₄ : K.In h₄ := fun a o e => k₄ a o (fun z => by rw [z, hnx] at e; cases e) (X₃ a o e)
  -- self.p = p
  refine wpAt_of_wpAny (wpAny_execs_cons (plainObj_wpAny_Assign_Attribute ?_))
  refine LdN hL₄ hvp (LdN hL₄ hvx ?_ hk hlx (by decide)) hk hlp hdb
  refine set_plain X₄ (ox := excO C t1) (od := none) ⟨hx₄, rfl, rfl, trivial⟩ T.sa ?_
  refine exc_osa X₄ hx₄ hcl (show refsVE (.ref C :: bm) = true from hbm) rfl T.noN (fun h₅ tk₅ dx k₅ dn dne hx₅ hn₅ => ?_)
  have big : hp.objs.size ≤ h₄.objs.size := Nat.le_of_lt hL₄.lt
  exact wpAny_execs_nil (hq h₅ tk₅ dx t1 ⟨fun b o hb e => k₅ b o hb (keep14 b o hb e), hx₅, Nat.le_trans big dn, dne, hn₅⟩)
/-- a made error -/
structure OwnMade (h h' : Heap) (e C d : Addr) (p : Str) (v : Value) : Prop where
  keep : ∀ b o, h.get? b = some o → h'.get? b = some o
  new : h.objs.size ≤ e
  obj : ∃ oe vs, h'.get? e = some oe ∧ oe.cls = .ref C ∧ oe.dict = some d ∧ oe.data = .fields vs ∧ vs[1]? = some .none
  dbig : h.objs.size ≤ d
  dne : d ≠ e
  ns : h'.Ns1 d (fun y => if y = p then some v else none)
theorem err_made (T : ErrTxt prog K C Dc fI cc cda p) {v : Value} (X : K.In s.heap) (hlim : s.heap.NoLimit) (hG : s.heap.Ns mainGlobals mg) (hsu : mg "super" = none)
    (hbt : ∃ mb, s.heap.Ns builtinsNs mb ∧ mb "super" = some (.type "super")) (hroom : A.depth + 1 < recursionLimit)
    (hq : ∀ h' tk e d, OwnMade s.heap h' e C d p v → R (.ok (.ret (.ref e))) { s with heap := h', toks := tk }) :
    codeAny (model prog w) A (.call (.ref C) ⟨[v], []⟩) R s := by
  obtain ⟨nm, q, N, bs, bm, sn, sub, ab, col, dd, k0, k1, k2, k3, k5, hC, hbm⟩ := T.cls
  obtain ⟨hp, g, dr, tk, os⟩ := s
  have k : ∀ b o, hp.get? b = some o → ((hp.push (kdv_tup [v])).push (excO C hp.objs.size)).get? b = some o := fun b o e => Heap.get?_push_of_some _ (Heap.get?_push_of_some _ e)
  have hget : ((hp.push (kdv_tup [v])).push (excO C hp.objs.size)).get? (hp.objs.size + 1) = some (excO C hp.objs.size) := by heap_get
  have hnx : K.lookup (hp.objs.size + 1) = none := by
    cases e : K.lookup (hp.objs.size + 1) with
    | none => rfl
    | some o =>
      have z : hp.get? (hp.objs.size + 1) = some o := X _ _ e
      exact absurd (Nat.lt_of_succ_lt (Heap.lt_size z)) (Nat.lt_irrefl _)
  obtain ⟨mb, hb1, hb2⟩ := hbt
  refine call_own F.excBase_ValueError (fun X => refsVE_contains X bm hbm) (X _ _ hC) (looks_findIn X T.iC) (fun self => bind_fn X self T.tC) (by rw [sizeLine_eq]; exact (by decide : 1 ≤ 16777216)) ?_
  refine err_init (s := ⟨(hp.push (kdv_tup [v])).push (excO C hp.objs.size), g, dr, tk, os⟩) T (X.keeps k) (hlim.keeps k) (hG.keeps k) hsu ⟨mb, hb1.keeps k, hb2⟩ hget hnx ?_ fun h' tk' dx t1 ⟨k', hx, dn, dne, hns⟩ => ?_
  · show A.depth + 1 < recursionLimit
    exact hroom
  · have old : ∀ b o, hp.get? b = some o → h'.get? b = some o := fun b o e => k' b o (Nat.ne_of_lt (Nat.lt_succ_of_lt (Heap.lt_size e))) (k b o e)
    have z : hp.objs.size + 1 + 1 ≤ dx := by
      first
        | (simpa only [Heap.size_push] using dn)
        | exact dn
        | (have q := dn; rw [Heap.size_push, Heap.size_push] at q; exact q)
    exact ⟨rfl, hq h' tk' (hp.objs.size + 1) dx ⟨old, Nat.le_succ _, ⟨_, _, hx, rfl, rfl, rfl, rfl⟩, Nat.le_trans (Nat.le_trans (Nat.le_succ _) (Nat.le_succ _)) z, dne, hns⟩⟩
end
end DWX
end PySem

set_option Elab.async false
set_option linter.all false
set_option maxRecDepth 100000
set_option maxHeartbeats 4000000
/-! DW12: errors: raise, try; the counter. -/
namespace DW
open PySem PySem.Spec L2

/-! ### raise -/
/-- the error class x, its one field f -/
def ErrOk (X : Cx) (x f : Str) : Prop := ∃ (k : Nat) (C Dc fI cc cda : Addr), PySem.DWX.ErrTxt X.prog X.K C Dc fI cc cda f ∧ X.mg x = some (.ref C) ∧ X.mg "super" = none ∧ Room k X.A
theorem ErrOk.in {X : Cx} {x f : Str} {scope : Scope} (C : ErrOk X x f) (s : Shared) (H : Hp) (L : Addr) (cl : List (Str × Addr)) (fp : List Addr) : ErrOk (X.blk s H scope (compEnvC scope cl L X.env) fp) x f := C
theorem ErrOk.tr {X : Cx} {x f : Str} (C : ErrOk X x f) (pn : List (Addr × Obj)) (xe : Value → Shared → Prop) : ErrOk (X.tr pn xe) x f := C
theorem relO_one {p : Str} {v : V} {v' : Value} (r : RelV v v') (f : Str) : RelO (List.lookup f [(p, v)]) (if f = p then some v' else none) := by
  by_cases hw : f = p
  · subst hw
    rw [if_pos rfl]
    have q : List.lookup f [(f, v)] = some v := by simp [List.lookup]
    rw [q]
    exact r
  · rw [if_neg hw]
    have qw : (f == p) = false := by simpa using hw
    have q2 : List.lookup f [(p, v)] = none := by simp [List.lookup, qw]
    rw [q2]
    trivial
def tMkErr (C : Addr) (f : Str) (ta : TA) : St → Hp → XK → Prop := fun σ H Q => ta σ H fun vs H1 => ∃ v, vs = [v] ∧ ∀ d, H1 d = none → Q (.ref C) (some d) (upd H1 d (.xd [(f, v)]))
theorem boot_super : bootBuiltins "super" = some (.type "super") := by decide +kernel
theorem pmk_err {X : Cx} {C Dc fI cc cda : Addr} {f x : Str} {a : Expr} {ta : TA} {p pos : Pos} {k : Nat} (T : PySem.DWX.ErrTxt X.prog X.K C Dc fI cc cda f) (hC : X.mg x = some (.ref C)) (hsu : X.mg "super" = none) (hr : Room k X.A) (ha : PA X [a] ta) (hg : Gl X x) (hd : (x == ("__debug__" : Str)) = false)
    (he : starEach (a :: []) X.env = (false, eval a X.env) :: starEach [] X.env := by rfl) (hpl : (backTo pos (starEach [] X.env)).any (·.1) = false := by rfl) :
    PMk X (.Call (.Name x p) [a] [] pos) (tMkErr C f ta) := by
  intro pins s σ H Q I h
  refine wpAny_Call_Name_kw (ld_glob I hg hC ?_ hd)
  refine PySem.W.callWith_K (h₀ := X.base) I.ok.mod.kin T.kC (thn (ha.run pos pins s σ H _ I h) fun us s1 hh => ?_) he hpl
  obtain ⟨vs, H1, I1, r1, v, ev, q1⟩ := hh
  subst ev
  refine ⟨I1.kIn, ?_⟩
  cases r1 with
  | cons rv rn =>
    rename_i v' us'
    cases rn
    show wpAny _ _ (call (.ref C) [v']) _ _ _
    have hlim := I1.nolimit
    have hG : s1.heap.Ns mainGlobals X.mg := I1.ok.mod.glob.keeps I1.bk
    obtain ⟨mb, hb1, hb2⟩ := I1.ok.mod.blt
    have hB := hb1.keeps I1.bk
    have kin := I1.kIn
    obtain ⟨hp, g, dr, tk, os⟩ := s1
    refine wpAny_call (PySem.DWX.err_made T kin hlim hG hsu ⟨mb, hB, (hb2 _ (by decide)).trans boot_super⟩ (by have := hr.dp; omega) fun h' tk' e d M => ?_)
    show MkP X pins σ Q (.ref e) ⟨h', g, dr, tk', os⟩
    obtain ⟨oe, fv, hoe, hc, hd, hdat, h1⟩ := M.obj
    have hns := M.ns
    obtain ⟨G', g1, g2⟩ := restrict h' fun b => decide (b ≠ e)
    have gk : ∀ b, b ≠ e → G'.get? b = h'.get? b := fun b hb => g1 b (decide_eq_true hb)
    have ge : G'.get? e = none := g2 e (by simp)
    have old : ∀ b o, hp.get? b = some o → G'.get? b = some o := fun b o q => (gk b (Nat.ne_of_lt (Nat.lt_of_lt_of_le (Heap.lt_size q) M.new))).trans (M.keep b o q)
    have ob : ObjOk X.prog X.w (upd H1 d (.xd [(f, v)])) G' d (.xd [(f, v)]) :=
      ⟨_, hns.at (fun o q => (gk d M.dne).trans q), fun f => relO_one rv f⟩
    have J : L2.Inv X pins σ (upd H1 d (.xd [(f, v)])) ⟨G', g, dr, tk', os⟩ := I1.laid (t' := tk') old M.dbig ob
    refine ⟨e, oe, fv, ⟨G', g, dr, tk', os⟩, _, .ref C, some d, rfl, J, fun b o q => ?_, ge, hoe, ⟨hc, hd⟩, hdat, h1, ?_, rfl, I1.bare, raises_own T.exC T.tyC, q1 d (I1.hok.fresh M.dbig)⟩
    · by_cases hb : b = e
      · have q' : G'.get? b = some o := q
        rw [hb, ge] at q'; cases q'
      · exact (gk b hb).symm.trans q
    · rw [upd_ne (Ne.symm M.dne)]
      exact I1.hok.fresh M.new
def sRaise (x f : Str) (e : E) : SF := fun ev c => (e ev c).toS ev fun d c => .exc ⟨x, [(f, d)]⟩ ev c
section
variable {X : Cx} {xo : Xo} {lo : Bool} {B : Blk} {x f : Str} {a : Expr} {fa : E} {p pos pos2 : Pos}
theorem ScX.raise (S : ScX X B) (T : ErrOk X x f) (h : B.gl x = true) (ha : DE X xo a fa) (he : starEach (a :: []) X.env = (false, eval a X.env) :: starEach [] X.env := by rfl) (hpl : (backTo pos (starEach [] X.env)).any (·.1) = false := by rfl) :
    DS X xo lo (.Raise (some (.Call (.Name x p) [a] [] pos)) none pos2) (sRaise x f fa) := fun W hW => by
  obtain ⟨k, C, Dc, fI, cc, cda, T, hC, hsu, hr⟩ := T
  obtain ⟨hg, hd⟩ := S.gl h
  unfold cDbg at hd
  simp only [Bool.and_eq_true, Bool.not_eq_true'] at hd
  refine PSimp (ps_raise S.calm hW (pmk_err T hC hsu hr (pa_cons (ha W hW) pa_nil he) hg hd.1.1 he hpl)) fun D' σ H h => ?_
  obtain ⟨G, ev, c, g, hx, h⟩ := h
  refine tG.mk g hx (PostS.bind g h fun d c1 v H1 s1 k1 g1 r1 h1 => ⟨v, rfl, fun dd nd => ?_⟩)
  have sm := same_updN (o := .xd [(f, v)]) nd
  have g2 := g1.same sm
  refine h1 _ _ σ _ g2 (Gd.fzSm (.of_same sm)) ⟨C, dd, [(f, v)], rfl, hC, rfl, upd_same, fun z => g1.tr z nd, rfl, .cons (Rep.sm (.of_same sm) r1) .nil⟩
end

/-! ### try -/
/-- what the clauses wish of an exception of the body; a clause may name it -/
def wHs (K : PySem.W.Frag) (Wout : WX) (D : Ends) : List (Value × Option Nat × (Addr → Value → Option Addr → TS)) → WX
  | [] => Wout
  | (c, o, ts) :: r => fun cls d σ H => ∃ b, PySem.W.exmOne K cls c = some b ∧ (b = true → ∀ a, H a = none → (match o with
      | some i => ts a cls d { nx := fun σ' H' => D.nx (σ'.set i none) H', rt := D.rt, bk := fun σ' H' => D.bk (σ'.set i none) H', ct := fun σ' H' => D.ct (σ'.set i none) H' } (σ.set i (some (.ref a))) H
      | none => ts a cls d D σ H)) ∧ (b = false → wHs K Wout D r cls d σ H)
inductive HsOk (X : Cx) : List ExceptHandler → List (Value × Option Nat × (Addr → Value → Option Addr → TS)) → Prop
  | nil : HsOk X [] []
  | bare {x : Str} {c : Value} {ts : Addr → Value → Option Addr → TS} {b₀ : Stmt} {suite : List Stmt} {np pos' : Pos} {hds : List ExceptHandler} {l : List (Value × Option Nat × (Addr → Value → Option Addr → TS))} (hc : Names X x c)
      (hsu : ∀ (a : Addr) (oe : Obj) (cls : Value) (d : Option Addr) (pn : List (Addr × Obj)), Zc cls d oe → (∃ vs, oe.data = .fields vs) → PSs (X.suite a ((a, oe) :: pn)) (b₀ :: suite) (ts a cls d)) (r : HsOk X hds l) :
      HsOk X (.ExceptHandler (some (.Name x np)) none (b₀ :: suite) pos' :: hds) ((c, none, ts) :: l)
  | as {x n : Str} {i : Nat} {c : Value} {ts : Addr → Value → Option Addr → TS} {b₀ : Stmt} {suite : List Stmt} {np pos' : Pos} {hds : List ExceptHandler} {l : List (Value × Option Nat × (Addr → Value → Option Addr → TS))} (hc : Names X x c)
      (hi : X.N[i]? = some n) (hln : X.env.kindOf n = some .local)
      (hsu : ∀ (a : Addr) (oe : Obj) (cls : Value) (d : Option Addr) (pn : List (Addr × Obj)), Zc cls d oe → (∃ vs, oe.data = .fields vs) → PSs (X.suite a ((a, oe) :: pn)) (b₀ :: suite) (ts a cls d)) (r : HsOk X hds l) :
      HsOk X (.ExceptHandler (some (.Name x np)) (some n) (b₀ :: suite) pos' :: hds) ((c, some i, ts) :: l)
section
variable {X : Cx} {body : List Stmt} {h₀ : ExceptHandler} {hds : List ExceptHandler} {l : List (Value × Option Nat × (Addr → Value → Option Addr → TS))} {pos : Pos} {tb : WX → TS} {Wout : WX}
theorem ps_try_hs (hs : X.stack = X.env :: X.outer) (hf : X.env.frame = some X.env.locals) (hN : X.N.Nodup) (tk : Takes X Wout)
    (hb : ∀ (W : WX) (pn : List (Addr × Obj)) (xe : Value → Shared → Prop), Takes (X.tr pn xe) W → PassesOwn (model X.prog X.w) X.A X.env xe → PSs (X.tr pn xe) body (tb W))
    (hh : HsOk X (h₀ :: hds) l) : PS X (.Try body (h₀ :: hds) [] [] pos) (fun D σ H => tb (wHs X.K Wout D l) D σ H) := by
  refine ⟨fun pins s σ H D I h => ?_⟩
  have ok := I.ok
  have hfr : X.A.frames = some (X.env :: X.outer) := by rw [ok.frames, hs]
  refine wpAny_Try_except ?_
  refine wpAny_mono ((hb (wHs X.K Wout D l) (X.pn ++ pins) (fun e s₁ => wpAny (model X.prog X.w) X.A (noteFrame e X.env) (fun _ s₂ => wpAny (model X.prog X.w) X.A (setFlight e none) (fun _ s₃ =>
    wpAny (model X.prog X.w) X.A (handleBy e X.env (h₀ :: hds)) (SP X pins D) X.xe s₃) X.xe s₂) X.xe s₁) (fun u s' xx => ?_) PassesOwn.looking).run [] s σ H D (I.toTry _) h) (fun f s1 hsp => ?_) (fun e s1 he => he)
  · -- the catch
    obtain ⟨a, B, sI, pins', σ', H', cls, d, rfl, J', nb, up, sky, na, os, ag, w⟩ := xx
    have J : L2.Inv X pins σ' H' sI := J'.ofTry ok
    have sky' : Sky B (X.env :: X.outer) a (Zc cls d) X.env.locals s'.heap := by rw [← hs]; exact sky
    show wpAny (model X.prog X.w) X.A (noteFrame (.ref a) X.env) _ _ _
    refine Sky.land Zc.steady hfr hf sky' fun h3 fl3 up3 => ?_
    have J3 : L2.Inv X pins σ' H' { s' with heap := h3 } := J.landed nb fl3.1 (up.trans up3) os ag
    obtain ⟨oe3, vs3, he3, hz3, hd3⟩ := fl3.there
    have notFr : ∀ {h : Heap} {o : Obj} {vs : Array Value}, h.FunFrames B (X.env :: X.outer) → h.get? a = some o → o.data = .fields vs → a ∉ frs (X.env :: X.outer) := fun {h o vs} ff e dd hm => by
      obtain ⟨_, o', e', hnf⟩ := ff.mem hm
      rw [e] at e'; cases e'
      exact hnf _ dd
    have nfr := notFr fl3.2.2.1 he3 hd3
    have nL : a ≠ X.env.locals := fun z => nfr (List.mem_filterMap.mpr ⟨X.env, List.mem_cons_self, by rw [hf, z]⟩)
    have nF : a ∉ X.fs := fun hm => by
      obtain ⟨e, he, q⟩ := List.mem_filterMap.mp hm
      exact nfr (List.mem_filterMap.mpr ⟨e, List.mem_cons_of_mem _ he, q⟩)
    have S3 := J3.suite he3 hd3 na nL nF
    have LT : PySem.W.Looks (model X.prog X.w) h3 (typeOf (.ref a)) cls := fun A Q E s k q => wpAny_typeOf_ref (k _ _ he3) (by rw [hz3.1]; exact q)
    have test : ∀ {x : Str} {c : Value} {np : Pos} {Q : Value → Shared → Prop} {E : Value → Shared → Prop}, Names X x c → Q c { s' with heap := h3 } → wpAny (model X.prog X.w) (X.A.mark (some (.ref a))) (eval (.Name x np) X.env) Q E { s' with heap := h3 } := fun {x c np Q E} hc q => by
      obtain ⟨hg, hdbg, hm | ⟨hm, hv, hnn⟩⟩ := hc
      · exact ld_glob (X := X.suite a ((a, oe3) :: (X.pn ++ pins))) S3 hg hm q hdbg
      · exact ld_blt (X := X.suite a ((a, oe3) :: (X.pn ++ pins))) S3 hg hm hv q hnn hdbg
    have go : ∀ {hds' : List ExceptHandler} {l' : List (Value × Option Nat × (Addr → Value → Option Addr → TS))}, HsOk X hds' l' → wHs X.K Wout D l' cls d σ' H' →
        wpAny (model X.prog X.w) X.A (handleBy (.ref a) X.env hds') (SP X pins D) X.xe { s' with heap := h3 } := by
      intro hds' l' hk
      induction hk with
      | nil =>
        intro w
        refine wpAny_handleBy_nil ?_
        obtain ⟨k1, k2, k3, oe, vs, T, oT, ts', he, hz, hd, h1, hr⟩ := id fl3
        unfold PySem.passOn
        refine wpAny_bind (wpAny_field he hd h1 ?_)
        rw [if_neg (show ¬ ((Value.ref T == Value.none) = true) from by simp)]
        have fin : wpAny (model X.prog X.w) X.A (setFlight (.ref a) X.env.frame) (fun _ s4 => wpAny (model X.prog X.w) X.A (throw (.ref a) : Sem Flow) (SP X pins D) X.xe s4) X.xe { s' with heap := h3 } := by
          rw [hf]
          refine HandSPX.setFlight_upZ fl3 fun h4 hh4 up4 => wpAny_throw (tk _ _ ?_)
          exact ⟨a, B, sI, pins, σ', H', cls, d, rfl, J, nb, (up.trans up3).trans up4, .inr (.inr (by rw [hs]; exact hh4)), na, os, ag, w⟩
        first
          | exact wpAny_bind (wpAny_pure (wpAny_bind fin))
          | exact wpAny_bind fin
      | @bare x c ts b₀ suite np pos' hds2 l2 hc hsu r ih =>
        intro w
        obtain ⟨b, hb1, hyes, hno⟩ := w
        refine wpAny_handleBy_cons (codeAny_handlers_test ?_) (by intro q; cases q)
        have LM := PySem.W.exm_one (M := model X.prog X.w) (J3.kIn) LT hb1
        refine test hc (LM.here ?_)
        cases b with
        | true =>
          refine codeAny_handlers_suite ?_
          refine HandSPX.lands_againZ fl3 fun h4 fl4 up4 => ?_
          have J4 : L2.Inv X pins σ' H' { s' with heap := h4 } := J.landed nb fl4.1 ((up.trans up3).trans up4) os ag
          obtain ⟨oe4, vs4, he4, hz4, hd4⟩ := fl4.there
          have S4 := J4.suite he4 hd4 na nL nF
          refine wpAny_mono ((hsu a oe4 cls d (X.pn ++ pins) hz4 ⟨_, hd4⟩).run [] _ _ H' _ S4 (hyes rfl a na)) (fun f s6 hsp => ?_) (fun _ _ z => False.elim z)
          cases f with
          | next =>
            obtain ⟨σ6, H6, S6, q6⟩ := hsp
            exact ⟨_, _, S6.unsuite ok, q6⟩
          | brk =>
            obtain ⟨σ6, H6, S6, q6⟩ := hsp
            exact ⟨_, _, S6.unsuite ok, q6⟩
          | cont =>
            obtain ⟨σ6, H6, S6, q6⟩ := hsp
            exact ⟨_, _, S6.unsuite ok, q6⟩
          | ret u =>
            obtain ⟨v6, σ6, H6, S6, r6, q6⟩ := hsp
            exact ⟨_, _, _, S6.unsuite ok, r6, q6⟩
        | false =>
          show wpAny _ X.A (handleBy (.ref a) X.env hds2) _ _ _
          exact ih (hno rfl)
      | @as x n i c ts b₀ suite np pos' hds2 l2 hc hi hln hsu r ih =>
        intro w
        obtain ⟨b, hb1, hyes, hno⟩ := w
        have hloc : L2.Loc X.env.scope n := .inl hln
        refine wpAny_handleBy_cons (codeAny_handlers_test ?_) (by intro q; cases q)
        have LM := PySem.W.exm_one (M := model X.prog X.w) (J3.kIn) LT hb1
        refine test hc (LM.here ?_)
        cases b with
        | true =>
          refine codeAny_handlers_suite_as ?_
          refine HandSPX.lands_againZ fl3 fun h4 fl4 up4 => ?_
          have J4 : L2.Inv X pins σ' H' { s' with heap := h4 } := J.landed nb fl4.1 ((up.trans up3).trans up4) os ag
          obtain ⟨oe4, vs4, he4, hz4, hd4⟩ := fl4.there
          have S4 := J4.suite he4 hd4 na nL nF
          refine store_ok (X := X.suite a ((a, oe4) :: (X.pn ++ pins))) (v := .ref a) S4 hN hi hloc rfl (fun s5 S5 => ?_) (.inr hln)
          refine wpAny_mono ((hsu a oe4 cls d (X.pn ++ pins) hz4 ⟨_, hd4⟩).run [] s5 _ H' _ S5 (hyes rfl a na)) (fun f s6 hsp => ?_) (fun _ _ z => False.elim z)
          have end_ : ∀ {σ6 : St} {H6 : Hp} {Q : Shared → Prop}, L2.Inv (X.suite a ((a, oe4) :: (X.pn ++ pins))) [] σ6 H6 s6 → (∀ s7, L2.Inv X pins (σ6.set i none) H6 s7 → Q s7) →
              wpAny (model X.prog X.w) X.A (do bindName X.env n .none; unbindBehindTheSuite X.env n pos') (fun _ s7 => Q s7) X.xe s6 := fun {σ6 H6 Q} S6 hq => gone_ok (S6.unsuite ok) hN hi hln hq
          cases f with
          | next =>
            obtain ⟨σ6, H6, S6, q6⟩ := hsp
            exact end_ S6 fun s7 J7 => ⟨_, _, J7, q6⟩
          | brk =>
            obtain ⟨σ6, H6, S6, q6⟩ := hsp
            exact end_ S6 fun s7 J7 => ⟨_, _, J7, q6⟩
          | cont =>
            obtain ⟨σ6, H6, S6, q6⟩ := hsp
            exact end_ S6 fun s7 J7 => ⟨_, _, J7, q6⟩
          | ret u =>
            obtain ⟨v6, σ6, H6, S6, r6, q6⟩ := hsp
            exact end_ S6 fun s7 J7 => ⟨_, _, _, J7, r6, q6⟩
        | false =>
          show wpAny _ X.A (handleBy (.ref a) X.env hds2) _ _ _
          exact ih (hno rfl)
    exact go hh w
  · cases f with
    | next =>
      obtain ⟨σ', H', J', q⟩ := hsp
      exact wpAny_execs_nil ⟨σ', H', J'.ofTry ok, q⟩
    | brk =>
      obtain ⟨σ', H', J', q⟩ := hsp
      exact ⟨σ', H', J'.ofTry ok, q⟩
    | cont =>
      obtain ⟨σ', H', J', q⟩ := hsp
      exact ⟨σ', H', J'.ofTry ok, q⟩
    | ret u =>
      obtain ⟨v, σ', H', J', r, q⟩ := hsp
      exact ⟨v, σ', H', J'.ofTry ok, r, q⟩
end
end DW

set_option Elab.async false
set_option linter.all false
set_option maxRecDepth 100000
set_option maxHeartbeats 4000000
/-! DW13: try by mirrors; what a suite says of its error; the counter. -/
namespace DW
open PySem PySem.Spec L2

/-- the error classes: sub x c: is x of c -/
structure ErrTb (M : Md) (sub : Str → Str → Option Bool) : Prop where
  exm : ∀ (x c : Str) (b : Bool) (C1 C2 : Addr), sub x c = some b → M.mg x = some (.ref C1) → M.mg c = some (.ref C2) → PySem.W.exmOne M.K (.ref C1) (.ref C2) = some b
def isEx : S → Bool
  | .ex _ => true
  | _ => false
def noExs (ev : Env) : Bool := ev.all fun s => !isEx s
/-- behind a suite whose error was slot i's -/
def finH (i : Nat) : SR → SR
  | .nx ev c => if noExs (ev.set i .no) = true then .nx (ev.set i .no) c else .bad
  | .brk ev c => if noExs (ev.set i .no) = true then .brk (ev.set i .no) c else .bad
  | .cnt ev c => if noExs (ev.set i .no) = true then .cnt (ev.set i .no) c else .bad
  | .ret d c => .ret d c
  | _ => .bad
def fin0 : SR → SR
  | .exc _ _ _ => .bad
  | r => r
abbrev Hd := Str × Option Nat × SF
def hL (sub : Str → Str → Option Bool) : List Hd → XD → SF
  | [], x => fun ev c => .exc x ev c
  | (cl, o, f) :: r, x => fun ev c => match sub x.cls cl with
    | none => .bad
    | some false => hL sub r x ev c
    | some true => match o with
      | some i => if i < ev.length then finH i (f (ev.set i (.ex x)) c) else .bad
      | none => fin0 (f ev c)
def sTry (sub : Str → Str → Option Bool) (b : SF) (hs : List Hd) : SF := fun ev c => match b ev c with
  | .exc x ev' c' => hL sub hs x ev' c'
  | r => r
abbrev Gd.xof (G : Gd) (xo : Xo) : Gd := { G with xo := xo }
section
variable {M : Md} {G : Gd} {σ : St} {H : Hp} {ev : Env} {c : Int}
theorem noExs_of {i : Nat} {x : XD} (h : noExs ev = true) (e : ev[i]? = some (.ex x)) : False := by
  unfold noExs at h
  rw [List.all_eq_true] at h
  have := h _ (List.mem_of_getElem? e)
  cases this
theorem Gk.xof (g : Gk M G σ H ev c) (xo : Xo) (h : noExs ev = true) : Gk M (G.xof xo) σ H ev c :=
  ⟨g.len, g.keep, g.cell, g.fo, g.lo, g.val, g.own, g.dist, g.tm, g.tmd, g.tmo, fun i x e => (noExs_of h e).elim⟩
theorem Gk.noEx (g : Gk M G σ H ev c) (hx : G.xo = none) : noExs ev = true := by
  unfold noExs
  rw [List.all_eq_true]
  intro s hs
  cases s with
  | ex x =>
    obtain ⟨i, hi⟩ := List.getElem?_of_mem hs
    obtain ⟨a, cls, d, h1, _⟩ := g.ex i x hi
    rw [hx] at h1
    cases h1
  | _ => rfl
end
/-- the clauses' values and readings -/
def hV (M : Md) (lo : Bool) (l : List Hd) : List (Value × Option Nat × (Addr → Value → Option Addr → TS)) := l.map fun h => ((M.mg h.1).getD .none, h.2.1, fun a cls d => tS M (match h.2.1 with | some _ => some (a, cls, d) | none => none) lo h.2.2 W0)
theorem PostS.W {M : Md} {lo : Bool} {G : Gd} {σ : St} {H : Hp} {ev : Env} {W W' : WX} {D' : Ends} {r : SR} (h : PostS M lo G σ H ev W D' (fin0 r)) : PostS M lo G σ H ev W' D' r := by
  cases r with
  | nx e c => exact h
  | brk e c => exact h
  | cnt e c => exact h
  | ret d c => exact h
  | exc x e c => exact h.elim
  | bad => exact h
theorem wHs_of {M : Md} {lo : Bool} {G : Gd} {sub : Str → Str → Option Bool} {W : WX} {D' : Ends} {cls : Value} {d : Option Addr} {x : XD} (T : ErrTb M sub) (hx : G.xo = none) : ∀ {l : List Hd} {σ : St} {H : Hp} {ev : Env} {c : Int}, (∀ h ∈ l, ∃ C, M.mg h.1 = some (.ref C)) →
    Gk M G σ H ev c → XRep M H (G.O σ ev) G.L cls d x → PostS M lo G σ H ev W D' (hL sub l x ev c) → wHs M.K W D' (hV M lo l) cls d σ H
  | [], σ, H, ev, c, _, g, r, h => h cls d σ H g .refl r
  | (y, o, f) :: l, σ, H, ev, c, hm, g, r, h => by
    obtain ⟨C2, hC2⟩ := hm _ List.mem_cons_self
    obtain ⟨C, dd, fs, rfl, hC, rfl, r4, r5, r6, r7⟩ := id r
    unfold hL at h
    cases e1 : sub x.cls y with
    | none => rw [e1] at h; exact h.elim
    | some b =>
      rw [e1] at h
      have hC2' : M.mg y = some (.ref C2) := hC2
      have hex := T.exm _ _ _ _ _ e1 hC hC2'
      have ev0 : (M.mg y).getD Value.none = .ref C2 := by rw [hC2']; rfl
      show ∃ b', PySem.W.exmOne M.K (.ref C) ((M.mg y).getD .none) = some b' ∧ _ ∧ _
      rw [ev0]
      refine ⟨b, hex, fun hb => ?_, fun hb => ?_⟩
      · subst hb
        intro a na
        cases o with
        | none =>
          refine ⟨G, ev, c, g, hx, ?_⟩
          exact PostS.W h
        | some i =>
          have h : PostS M lo G σ H ev W D' (if i < ev.length then finH i (f (ev.set i (.ex x)) c) else .bad) := h
          by_cases hl : i < ev.length
          · rw [if_pos hl] at h
            have g1 := g.xof (some (a, .ref C, some dd)) (g.noEx hx)
            obtain ⟨g2, F2⟩ := g1.setG (i := i) (z := .ex x) (v := some (.ref a)) (fun _ z => by cases z) (fun _ z => by cases z) fun x' e => by
              cases e
              exact ⟨a, .ref C, some dd, rfl, rfl, ⟨C, dd, fs, rfl, hC, rfl, r4, r5, r6, r7⟩⟩
            refine ⟨G.xof (some (a, .ref C, some dd)), ev.set i (.ex x), c, g2, rfl, ?_⟩
            have back : ∀ {σ' : St} {H' : Hp} {e' : Env} {c' : Int}, noExs (e'.set i .no) = true → Gk M (G.xof (some (a, .ref C, some dd))) σ' H' e' c' → Fz ((G.xof (some (a, .ref C, some dd))).O (σ.set i (some (.ref a))) (ev.set i (.ex x))) H ((G.xof (some (a, .ref C, some dd))).O σ' e') H' →
                Gk M G (σ'.set i none) H' (e'.set i .no) c' ∧ Fz (G.O σ ev) H (G.O (σ'.set i none) (e'.set i .no)) H' := fun {σ' H' e' c'} hn g' F' => by
              obtain ⟨g3, F3⟩ := g'.setNo (i := i) (v := none)
              have g4 := g3.xof none hn
              refine ⟨?_, (F2.trans F').trans F3⟩
              have : (G.xof (some (a, .ref C, some dd))).xof none = G := by
                obtain ⟨H0, Fo, L, xo, Tm⟩ := G
                cases hx
                rfl
              rw [this] at g4
              exact g4
            show PostS M lo _ _ H _ W0 _ (f (ev.set i (.ex x)) c)
            cases e2 : f (ev.set i (.ex x)) c with
            | nx e' c' =>
              rw [e2] at h
              have h : PostS M lo G σ H ev W D' (if noExs (e'.set i .no) = true then .nx (e'.set i .no) c' else .bad) := h
              intro σ' H' g' F'
              by_cases hn : noExs (e'.set i .no) = true
              · rw [if_pos hn] at h
                obtain ⟨g4, F4⟩ := back hn g' F'
                exact h _ _ g4 F4
              · rw [if_neg hn] at h; exact h.elim
            | brk e' c' =>
              rw [e2] at h
              have h : PostS M lo G σ H ev W D' (if noExs (e'.set i .no) = true then .brk (e'.set i .no) c' else .bad) := h
              intro σ' H' g' F'
              by_cases hn : noExs (e'.set i .no) = true
              · rw [if_pos hn] at h
                obtain ⟨g4, F4⟩ := back hn g' F'
                exact h _ _ g4 F4
              · rw [if_neg hn] at h; exact h.elim
            | cnt e' c' =>
              rw [e2] at h
              have h : PostS M lo G σ H ev W D' (if noExs (e'.set i .no) = true then .cnt (e'.set i .no) c' else .bad) := h
              intro σ' H' g' F'
              by_cases hn : noExs (e'.set i .no) = true
              · rw [if_pos hn] at h
                obtain ⟨g4, F4⟩ := back hn g' F'
                exact h _ _ g4 F4
              · rw [if_neg hn] at h; exact h.elim
            | ret d' c' => rw [e2] at h; exact h
            | exc _ _ _ => rw [e2] at h; exact h.elim
            | bad => rw [e2] at h; exact h.elim
          · rw [if_neg hl] at h; exact h.elim
      · subst hb
        exact wHs_of T hx (fun h hh => hm h (List.mem_cons_of_mem _ hh)) g r h
theorem getD_of {mg : Str → Option Value} {x : Str} {v : Value} (h : mg x = some v) : mg x = some ((mg x).getD .none) := by rw [h]; rfl
inductive HsD (X : Cx) (lo : Bool) : List ExceptHandler → List Hd → Prop
  | nil : HsD X lo [] []
  | bare {x : Str} {C : Addr} {f : SF} {b₀ : Stmt} {suite : List Stmt} {np pos' : Pos} {hds : List ExceptHandler} {l : List Hd} (hC : X.mg x = some (.ref C)) (hg : Gl X x) (hd : cDbg x = true)
      (hsu : ∀ (a : Addr) (oe : Obj) (cls : Value) (d : Option Addr) (pn : List (Addr × Obj)), Zc cls d oe → (∃ vs, oe.data = .fields vs) → DSs (X.suite a ((a, oe) :: pn)) none lo (b₀ :: suite) f) (r : HsD X lo hds l) :
      HsD X lo (.ExceptHandler (some (.Name x np)) none (b₀ :: suite) pos' :: hds) ((x, none, f) :: l)
  | as {x n : Str} {i : Nat} {C : Addr} {f : SF} {b₀ : Stmt} {suite : List Stmt} {np pos' : Pos} {hds : List ExceptHandler} {l : List Hd} (hC : X.mg x = some (.ref C)) (hg : Gl X x) (hd : cDbg x = true) (hi : X.N[i]? = some n) (hln : X.env.kindOf n = some .local)
      (hsu : ∀ (a : Addr) (oe : Obj) (cls : Value) (d : Option Addr) (pn : List (Addr × Obj)), Zc cls d oe → (∃ vs, oe.data = .fields vs) → DSs (X.suite a ((a, oe) :: pn)) (some (a, cls, d)) lo (b₀ :: suite) f) (r : HsD X lo hds l) :
      HsD X lo (.ExceptHandler (some (.Name x np)) (some n) (b₀ :: suite) pos' :: hds) ((x, some i, f) :: l)
theorem HsD.ok {X : Cx} {lo : Bool} : ∀ {hds : List ExceptHandler} {l : List Hd}, HsD X lo hds l → HsOk X hds (hV X.md lo l) ∧ ∀ h ∈ l, ∃ C, X.mg h.1 = some (.ref C)
  | _, _, .nil => ⟨.nil, fun _ h => by cases h⟩
  | _, _, .bare (C := C) (l := l) hC hg hd hsu r => by
    obtain ⟨h1, h2⟩ := HsD.ok r
    unfold cDbg at hd
    simp only [Bool.and_eq_true, Bool.not_eq_true'] at hd
    refine ⟨.bare ⟨hg, hd.1.1, .inl ?_⟩ (fun a oe cls d pn hz hf => hsu a oe cls d pn hz hf W0 takes0) h1, fun h hh => ?_⟩
    · exact getD_of hC
    · rcases List.mem_cons.mp hh with e | hh
      · subst e; exact ⟨_, hC⟩
      · exact h2 h hh
  | _, _, .as (C := C) (l := l) hC hg hd hi hln hsu r => by
    obtain ⟨h1, h2⟩ := HsD.ok r
    unfold cDbg at hd
    simp only [Bool.and_eq_true, Bool.not_eq_true'] at hd
    refine ⟨.as ⟨hg, hd.1.1, .inl ?_⟩ hi hln (fun a oe cls d pn hz hf => hsu a oe cls d pn hz hf W0 takes0) h1, fun h hh => ?_⟩
    · exact getD_of hC
    · rcases List.mem_cons.mp hh with e | hh
      · subst e; exact ⟨_, hC⟩
      · exact h2 h hh
section
variable {X : Cx} {lo : Bool} {B : Blk} {sub : Str → Str → Option Bool} {body : List Stmt} {h₀ : ExceptHandler} {hds : List ExceptHandler} {l : List Hd} {b : SF} {pos : Pos}
theorem ScX.try_ (S : ScX X B) (hs : X.stack = X.env :: X.outer) (hf : X.env.frame = some X.env.locals) (T : ErrTb X.md sub)
    (hb : ∀ (pn : List (Addr × Obj)) (xe : Value → Shared → Prop), PassesOwn (model X.prog X.w) X.A X.env xe → DSs (X.tr pn xe) none lo body b) (hh : HsD X lo (h₀ :: hds) l) : DS X none lo (.Try body (h₀ :: hds) [] [] pos) (sTry sub b l) := fun W hW => by
  obtain ⟨k1, k2⟩ := hh.ok
  refine PSimp (ps_try_hs (tb := fun W' => tS X.md none lo b W') hs hf S.nd hW (fun W' pn xe tk po => hb pn xe po W' tk) k1) fun D' σ H h => ?_
  obtain ⟨G, ev, c, k, hx, h⟩ := h
  refine ⟨G, ev, c, k, hx, ?_⟩
  unfold sTry at h
  cases e : b ev c with
  | exc x ev' c' =>
    rw [e] at h
    exact fun cls d σ' H' g F r => wHs_of T hx k2 g r (PostS.from h F)
  | nx _ _ => rw [e] at h; exact h
  | brk _ _ => rw [e] at h; exact h
  | cnt _ _ => rw [e] at h; exact h
  | ret _ _ => rw [e] at h; exact h
  | bad => rw [e] at h; exact h
end

/-! ### what a suite says of its error -/
/-- classes whose instances' own fields are read plainly -/
structure ErrFl (M : Md) (cl : List Str) (f : Str) : Prop where
  ok : ∀ x ∈ cl, ∃ C, M.mg x = some (.ref C) ∧ XfC M.K C ∧ PySem.W.findIn M.K (.ref C) f = some none
def eXat (cl : List Str) (i : Nat) (f : Str) : E := fun ev c => match ev[i]? with
  | some (.ex x) => if x.cls ∈ cl then (match x.fs.lookup f with
    | some d => .ok d c
    | none => .bad) else .bad
  | _ => .bad
theorem lookup_rep {M : Md} {H : Hp} {O : Addr → Prop} {L : Option Addr} {f : Str} : ∀ {fs : List (Str × V)} {ds : List (Str × D)} {d : D}, fs.map (·.1) = ds.map (·.1) → RepA M H O L (fs.map (·.2)) (ds.map (·.2)) → ds.lookup f = some d → ∃ v, fs.lookup f = some v ∧ Rep M H O L v d
  | [], [], d, _, _, h => by simp [List.lookup] at h
  | [], _ :: _, _, e, _, _ => by simp at e
  | _ :: _, [], _, e, _, _ => by simp at e
  | (k, v) :: fs, (k', w) :: ds, d, e, r, h => by
    simp only [List.map_cons, List.cons.injEq] at e
    obtain ⟨e1, e2⟩ := e
    subst e1
    cases r with
    | cons r rr =>
      rw [List.lookup_cons] at h ⊢
      cases q : f == k with
      | true =>
        rw [q] at h
        cases h
        exact ⟨v, rfl, r⟩
      | false =>
        rw [q] at h
        exact lookup_rep e2 rr h
section
variable {X : Cx} {B : Blk} {a : Addr} {oe : Obj} {cls : Value} {d : Option Addr} {pn : List (Addr × Obj)} {pos p : Pos} {x f : Str} {cl : List Str}
/-- e.f in the suite -/
theorem DE.xat (i : Nat) (T : ErrFl X.md cl f) (hz : Zc cls d oe) (hf : ∃ vs, oe.data = .fields vs) (hN : X.N[i]? = some x) (hv : L2.Vis X.env.scope x) (hd : cDbg x = true)
    (hb : attributeBase (.Name x p) f X.env (eval (.Name x p) X.env) = eval (.Name x p) X.env := by rfl) : DE (X.suite a ((a, oe) :: pn)) (some (a, cls, d)) (.Attribute (.Name x p) f pos) (eXat cl i f) := fun W hW => by
  unfold cDbg at hd
  simp only [Bool.and_eq_true, Bool.not_eq_true'] at hd
  refine ⟨fun pins s σ H Q I h => ?_⟩
  obtain ⟨G, ev, c, k, hx, h⟩ := h
  unfold eXat at h
  split at h
  · rename_i xd e1
    by_cases hc : xd.cls ∈ cl
    · rw [if_pos hc] at h
      obtain ⟨a', cls', d', q1, q2, C, dd, fs, rfl, hC, rfl, r4, r5, r6, r7⟩ := k.ex i xd e1
      rw [hx] at q1
      cases q1
      obtain ⟨C', hC', TC, hno⟩ := T.ok _ hc
      have : C' = C := by
        rw [hC] at hC'
        cases hC'
        rfl
      subst this
      cases e2 : xd.fs.lookup f with
      | none => rw [e2] at h; exact h.elim
      | some dv =>
        rw [e2] at h
        obtain ⟨v, v1, v2⟩ := lookup_rep r6 r7 e2
        exact (pe_xf (pos := pos) TC hno hz hf (pe_var (X := X.suite a ((a, oe) :: pn)) hN hv hd.1.1 hd.1.2) hb).run pins s σ H Q I ⟨_, q2, rfl, rfl, dd, fs, v, rfl, r4, v1, h v H .refl k.cell v2⟩
    · rw [if_neg hc] at h; exact h.elim
  · exact h.elim
/-- isinstance(e, c) in the suite -/
structure ErrIs (M : Md) (cl : List Str) (c : Str) (ans : Str → Bool) : Prop where
  ok : ∀ x ∈ cl, ∃ C D, M.mg x = some (.ref C) ∧ M.mg c = some (.ref D) ∧ PySem.W.kitOne M.K (.ref C) (.ref D) = some (ans x) ∧ (PySem.W.clsIn M.K C).isSome = true ∧ PySem.W.findIn M.K (.ref C) "__getattribute__" = some (some (.builtin "BaseException.__getattribute__")) ∧
    PySem.W.findIn M.K (.ref C) "__getattr__" = some none ∧ PySem.W.subIn M.K (.ref C) (.type "BaseException") = some true ∧ PySem.W.findIn M.K (.ref C) "__class__" = some (some (.builtin "object.__class__")) ∧
    PySem.W.specialIn M.K (.builtin "object.__class__") "__get__" = some (some (.builtin "getset_descriptor.__get__")) ∧ PySem.W.takesIn M.K (.builtin "object.__class__") = some true ∧ PySem.W.mroIn M.K C (.type "object") = some true
def eXis (cl : List Str) (ans : Str → Bool) (i : Nat) : E := fun ev c => match ev[i]? with
  | some (.ex x) => if x.cls ∈ cl then .ok (.bl (ans x.cls)) c else .bad
  | _ => .bad
theorem DE.xis (i : Nat) {ans : Str → Bool} {c : Str} {p0 p1 : Pos} (T : ErrIs X.md cl c ans) (hm : X.mg "isinstance" = none) (hgi : Gl X "isinstance") (hgc : Gl X c) (hdc : cDbg c = true) (hz : Zc cls d oe) (hf : ∃ vs, oe.data = .fields vs) (hN : X.N[i]? = some x) (hv : L2.Vis X.env.scope x) (hd : cDbg x = true)
    (he : starEach [.Name x p, .Name c p1] X.env = (false, eval (.Name x p) X.env) :: starEach [.Name c p1] X.env := by rfl) (hpl : (backTo pos (starEach [.Name c p1] X.env)).any (·.1) = false := by rfl) :
    DE (X.suite a ((a, oe) :: pn)) (some (a, cls, d)) (.Call (.Name "isinstance" p0) [.Name x p, .Name c p1] [] pos) (eXis cl ans i) := fun W hW => by
  unfold cDbg at hd hdc
  simp only [Bool.and_eq_true, Bool.not_eq_true'] at hd hdc
  refine ⟨fun pins s σ H Q I h => ?_⟩
  obtain ⟨G, ev, cc, k, hx, h⟩ := h
  unfold eXis at h
  split at h
  · rename_i xd e1
    by_cases hc : xd.cls ∈ cl
    · rw [if_pos hc] at h
      obtain ⟨a', cls', d', q1, q2, C, dd, fs, rfl, hC, rfl, r4, r5, r6, r7⟩ := k.ex i xd e1
      rw [hx] at q1
      cases q1
      obtain ⟨C', Dc, hC', hD, hk, t1, t2, t3, t4, t5, t6, t7, t8⟩ := T.ok _ hc
      have : C' = C := by
        rw [hC] at hC'
        cases hC'
        rfl
      subst this
      -- isinstance by values
      have call : CallR (X.suite a ((a, oe) :: pn)) (.builtin "isinstance") (fun xs H Q => xs = [.ref a, .ref Dc] ∧ H dd = some (.xd fs) ∧ Q (.bl (ans xd.cls)) H) := by
        intro pins s σ H xs us Q I r h
        obtain ⟨rfl, hdd, q⟩ := h
        cases r with
        | cons rx rr =>
          cases rr with
          | cons rt rr =>
            cases rr
            cases rx
            cases rt
            obtain ⟨hget, _⟩ := I.pin (a, oe) (List.mem_append.mpr (.inl List.mem_cons_self))
            obtain ⟨vs, hv⟩ := hf
            have hxo : ObjOk X.prog X.w H s.heap dd (.xd fs) := I.hok dd _ hdd
            obtain ⟨mA, hns, hr⟩ := hxo
            obtain ⟨od, ho, hl⟩ := lookIn_ns hns
            have J : PySem.W.InstAt s.heap a oe C' (some od) := ⟨hget, hz.1, by unfold PySem.W.notCls; rw [hv] <;> rfl, by rw [hz.2]; exact ho⟩
            exact PySem.W.kia_one (PySem.W.kitx_exc t1 t2 t3 t4 t5 t6 t7 t8) I.kIn J hk (fun z => nomatch z) fun tk => ⟨.bl (ans xd.cls), H, I.kept (t' := tk) fun _ _ z => z, rfl, q⟩
      refine (pe_callB (X := X.suite a ((a, oe) :: pn)) (id := "isinstance") call hgi hm (by decide +kernel) (pa_cons (pe_var (X := X.suite a ((a, oe) :: pn)) hN hv hd.1.1 hd.1.2) (pa_cons (pe_glob (X := X.suite a ((a, oe) :: pn)) (v := .ref Dc) hgc hD rfl hdc.1.1) pa_nil rfl) he) (by decide) (by decide) he hpl).run pins s σ H Q I ?_
      exact ⟨_, q2, rfl, r4, h (.bl _) H .refl k.cell (.bl _)⟩
    · rw [if_neg hc] at h; exact h.elim
  · exact h.elim
end

/-! ### the counter -/
def eCell (i : Nat) : E := fun ev c => match ev[i]? with
  | some (.val .cell) => .ok (.int c) c
  | _ => .bad
def sCell (i : Nat) (e : E) : SF := fun ev c => (e ev c).toS ev fun d _ => match ev[i]?, d with
  | some (.val .cell), .int n => .nx ev n
  | _, _ => .bad
theorem Rep.cell_eq {M : Md} {H : Hp} {O : Addr → Prop} {L : Option Addr} {v : V} (h : Rep M H O L v .cell) : ∃ a, v = .ref a ∧ L = some a := by
  cases h with
  | cell h => exact ⟨_, rfl, h⟩
section
variable {X : Cx} {xo : Xo} {lo : Bool} {B : Blk} {x : Str} {e : Expr} {fe : E} {p sp pos : Pos} {j : Nat} {ip : Pos}
theorem ScX.cellGet (S : ScX X B) (i : Nat) (h : B.var i x = true) (hs : PlainIx (.Constant (.int 0) j ip) := by intro _ _; rfl) : DE X xo (.Subscript (.Name x p) (.Constant (.int 0) j ip) pos) (eCell i) := fun W hW => by
  refine PEimp (pe_ix ix_list (pe_own S h) pe_int hs) fun σ H Q h => ?_
  obtain ⟨G, ev, c, k, hx, h⟩ := h
  unfold eCell at h
  split at h
  · rename_i e1
    obtain ⟨v, h1, r⟩ := k.val i _ e1
    obtain ⟨a, rfl, hL⟩ := r.cell_eq
    have hc := k.cell a hL
    exact ⟨_, h1, a, _, 0, _, rfl, rfl, .of hc, rfl, h _ H .refl k.cell (.int c)⟩
  · exact h.elim
theorem ScX.cellSet (S : ScX X B) (i : Nat) (h : B.var i x = true) (he : DE X xo e fe)
    (hs : swapsWithSole [.Subscript (.Name x p) (.Constant (.int 0) j ip) sp] e pos.line X.env = pure false := by rfl) (hw : swappedStores [.Subscript (.Name x p) (.Constant (.int 0) j ip) sp] e X.env = pure none := by rfl)
    (h1 : (assignEach [.Subscript (.Name x p) (.Constant (.int 0) j ip) sp] X.env).map (·.2) = [assign (.Subscript (.Name x p) (.Constant (.int 0) j ip) sp) X.env] := by rfl)
    (ha : ∀ v, assign (.Subscript (.Name x p) (.Constant (.int 0) j ip) sp) X.env v = (do
      let ov ← holding [v] (eval (.Name x p) X.env)
      let iv ← holding [v, ov] (eval (.Constant (.int 0) j ip) X.env)
      standAt sp
      holding [v, ov, iv] (setItem ov iv v)
      release [v, ov, iv] []) := by intro _; rfl) : DS X xo lo (.Assign [.Subscript (.Name x p) (.Constant (.int 0) j ip) sp] e pos) (sCell i fe) := fun W hW => by
  refine PSimp (ps_asg (he W hW) (pg_sub (pe_own S h) pe_int set_list ha) hs hw h1) fun D' σ H h => ?_
  obtain ⟨G, ev, c, k, hx, h⟩ := h
  unfold sCell at h
  refine tG.mk k hx (PostS.bind k h fun d c1 v H1 s1 k1 g1 r1 h2 => ?_)
  split at h2
  · rename_i n e1
    obtain ⟨w, q1, r⟩ := g1.val i _ e1
    obtain ⟨a, rfl, hL⟩ := r.cell_eq
    obtain rfl := Rep.int_eq r1
    have hc := g1.cell a hL
    refine ⟨_, q1, a, _, 0, 0, rfl, rfl, hc, rfl, ?_⟩
    have sm : Sm G.L H1 (upd H1 a (.lst ([V.int c1].set 0 (V.int n)))) := fun b o e n' => by
      rw [upd_ne (fun z => n' (by rw [z]; exact hL))]
      exact e
    exact h2 σ _ (g1.sm sm fun b hb => by
      rw [hL] at hb
      cases hb
      exact upd_same) (Gd.fzSm sm)
  · exact h2.elim
end
end DW

set_option Elab.async false
set_option linter.all false
set_option maxRecDepth 100000
set_option maxHeartbeats 4000000
/-! DWI: in, not in. -/
namespace DW
open PySem PySem.Spec L2
def keyD : D → Option Key
  | .int i => some (.inl i)
  | .str x => some (.inr x)
  | _ => none
def hasK (ds : List (Key × D)) (k : Key) : Bool := ds.any fun p => decide (p.1 = k)
def dMem (x : D) : D → Option Bool
  | .lst ys => if x.fit 16 && D.fits 15 ys then some (ys.any fun z => D.eqv z x) else none
  | .tup ys => if x.fit 16 && D.fits 15 ys then some (ys.any fun z => D.eqv z x) else none
  | .dk ds => (keyD x).map (hasK ds)
  | .str b => match x with
    | .str a => some (!(Builtin.Str.occurrences b a 0 b.length 1).isEmpty)
    | _ => none
  | _ => none
theorem dMem_lst (x : D) (ys : List D) : dMem x (.lst ys) = if x.fit 16 && D.fits 15 ys then some (ys.any fun z => D.eqv z x) else none := rfl
theorem dMem_tup (x : D) (ys : List D) : dMem x (.tup ys) = if x.fit 16 && D.fits 15 ys then some (ys.any fun z => D.eqv z x) else none := rfl
theorem dMem_dk (x : D) (ds : List (Key × D)) : dMem x (.dk ds) = (keyD x).map (hasK ds) := rfl
def dIn (x y : D) : Option D := (dMem x y).map .bl
def dNin (x y : D) : Option D := (dMem x y).map fun b => .bl (!b)
theorem dIn_bl : ∀ x y d, dIn x y = some d → ∃ k, d = .bl k := fun x y d h => by
  unfold dIn at h
  cases e : dMem x y with
  | none => rw [e] at h; cases h
  | some b => rw [e] at h; cases h; exact ⟨_, rfl⟩
theorem dNin_bl : ∀ x y d, dNin x y = some d → ∃ k, d = .bl k := fun x y d h => by
  unfold dNin at h
  cases e : dMem x y with
  | none => rw [e] at h; cases h
  | some b => rw [e] at h; cases h; exact ⟨_, rfl⟩
theorem any_toPs {x : D} (h : x.fit 16 = true) : ∀ {ys : List D}, D.fits 15 ys = true → (D.toPs ys).any (fun z => PyData.eqv z x.toP) = ys.any fun z => D.eqv z x
  | [], _ => rfl
  | y :: ys, q => by
    have q' : (y.fit 15 && D.fits 15 ys) = true := q
    obtain ⟨a, b⟩ := Bool.and_eq_true_iff.mp q'
    show (PyData.eqv y.toP x.toP || (D.toPs ys).any _) = (D.eqv y x || ys.any _)
    rw [D.eqv_toP 15 16 y x a h, any_toPs h b]
theorem valV_has : ∀ {kvs : List (Key × V)} {ds : List (Key × D)} {k : Key}, kvs.map (·.1) = ds.map (·.1) → (valV kvs k).isSome = hasK ds k
  | [], [], k, _ => rfl
  | [], _ :: _, k, h => by cases h
  | _ :: _, [], k, h => by cases h
  | p :: kvs, q :: ds, k, h => by
    rw [List.map_cons, List.map_cons] at h
    have h1 := (List.cons.inj h).1
    have h2 := (List.cons.inj h).2
    show (valV (p :: kvs) k).isSome = (decide (q.1 = k) || hasK ds k)
    by_cases e : p.1 = k
    · rw [valV_pos e, decide_eq_true (h1 ▸ e)]; rfl
    · rw [valV_neg e, decide_eq_false (fun z => e (h1.trans z)), valV_has h2]; rfl
theorem keyD_rep {M : Md} {H : Hp} {O : Addr → Prop} {L : Option Addr} {v : V} {d : D} {k : Key} (r : RepB M H O L v d) (h : keyD d = some k) : v = kV k := by
  cases d with
  | int i => cases h; exact r.int_eq
  | str x => cases h; exact r.str_eq
  | _ => cases h
section
variable {X : Cx}
theorem opd_in (hu : X.A.units + 65 < cLine) : OpD X (compareOp .In) dIn := by
  intro pins s σ H x y v u Q I rx ry ⟨O, L, dx, dy, d, hO, hx, hy, e, q⟩
  have fin : ∀ {b : Bool}, dMem dx dy = some b → d = .bl b := fun {b} z => by
    unfold dIn at e; rw [z] at e; cases e; rfl
  have done : ∀ {b : Bool} {s' : Shared}, dMem dx dy = some b → L2.Inv X pins σ H s' → EP X pins σ Q (.bool b) s' := fun {b s'} z I' => ⟨.bl b, H, I', rfl, q _ _ (Same.refl _) (by rw [fin z]; exact .bl _)⟩
  cases dy with
  | lst ys =>
    cases z : (dx.fit 16 && D.fits 15 ys) with
    | false =>
      have : dMem dx (.lst ys) = none := by rw [dMem_lst, z]; rfl
      unfold dIn at e; rw [this] at e; cases e
    | true =>
      have m : dMem dx (.lst ys) = some (ys.any fun z => D.eqv z dx) := by rw [dMem_lst, z]; rfl
      obtain ⟨z1, z2⟩ := Bool.and_eq_true_iff.mp z
      have fy : (D.lst ys).fit 16 = true := z2
      obtain ⟨as, r1⟩ := Dp.reads I dx.toP x v (RepB.dp 16 hx z1) rx
      obtain ⟨bs, r2⟩ := Dp.reads I (D.lst ys).toP y u (RepB.dp 16 hy fy) ry
      refine SeqAt.in_list_reads r2 r1 (SeqAt.canLay_of_shaped (D.shaped fy)) (SeqAt.canLay_of_shaped (D.shaped z1)) (PyProof.Rows.room_in_shaped (D.shaped z1) hu) ?_
      rw [any_toPs z1 z2]
      exact done m I
  | tup ys =>
    cases z : (dx.fit 16 && D.fits 15 ys) with
    | false =>
      have : dMem dx (.tup ys) = none := by rw [dMem_tup, z]; rfl
      unfold dIn at e; rw [this] at e; cases e
    | true =>
      have m : dMem dx (.tup ys) = some (ys.any fun z => D.eqv z dx) := by rw [dMem_tup, z]; rfl
      obtain ⟨z1, z2⟩ := Bool.and_eq_true_iff.mp z
      have fy : (D.tup ys).fit 16 = true := z2
      obtain ⟨as, r1⟩ := Dp.reads I dx.toP x v (RepB.dp 16 hx z1) rx
      obtain ⟨bs, r2⟩ := Dp.reads I (D.tup ys).toP y u (RepB.dp 16 hy fy) ry
      refine SeqAt.in_tuple_reads r2 r1 (SeqAt.canLay_of_shaped (D.shaped fy)) (SeqAt.canLay_of_shaped (D.shaped z1)) (PyProof.Rows.room_in_shaped (D.shaped z1) hu) ?_
      rw [any_toPs z1 z2]
      exact done m I
  | dk ds =>
    cases z : keyD dx with
    | none =>
      have : dMem dx (.dk ds) = none := by rw [dMem_dk, z]; rfl
      unfold dIn at e; rw [this] at e; cases e
    | some k =>
      have m : dMem dx (.dk ds) = some (hasK ds k) := by rw [dMem_dk, z]; rfl
      obtain ⟨a, kvs, rfl, h1, h2, h3⟩ := hy.dk_eq
      have ex := keyD_rep hx z
      subst ex
      obtain rfl : u = Value.ref a := ry
      have g : DGet H a (kV k) (valV kvs k) := DGet.k h1
      refine d_in (by omega) I g rx fun s' I' => ?_
      rw [valV_has h2]
      exact done m I'
  | str b =>
    cases dx with
    | str a =>
      have m : dMem (.str a) (.str b) = some (!(Builtin.Str.occurrences b a 0 b.length 1).isEmpty) := rfl
      obtain rfl := hx.str_eq
      obtain rfl := hy.str_eq
      exact op_in_str pins s σ H _ _ v u Q I rx ry ⟨_, _, rfl, rfl, q _ _ (Same.refl _) (by rw [fin m]; exact .bl _)⟩
    | _ => cases e
  | _ => cases e
theorem opd_nin (hu : X.A.units + 65 < cLine) : OpD X (compareOp .NotIn) dNin := by
  intro pins s σ H x y v u Q I rx ry ⟨O, L, dx, dy, d, hO, hx, hy, e, q⟩
  have fin : ∀ {b : Bool}, dMem dx dy = some b → d = .bl (!b) := fun {b} z => by
    unfold dNin at e; rw [z] at e; cases e; rfl
  have done : ∀ {b : Bool} {s' : Shared}, dMem dx dy = some b → L2.Inv X pins σ H s' → EP X pins σ Q (.bool (!b)) s' := fun {b s'} z I' => ⟨.bl (!b), H, I', rfl, q _ _ (Same.refl _) (by rw [fin z]; exact .bl _)⟩
  cases dy with
  | lst ys =>
    cases z : (dx.fit 16 && D.fits 15 ys) with
    | false =>
      have : dMem dx (.lst ys) = none := by rw [dMem_lst, z]; rfl
      unfold dNin at e; rw [this] at e; cases e
    | true =>
      have m : dMem dx (.lst ys) = some (ys.any fun z => D.eqv z dx) := by rw [dMem_lst, z]; rfl
      obtain ⟨z1, z2⟩ := Bool.and_eq_true_iff.mp z
      have fy : (D.lst ys).fit 16 = true := z2
      obtain ⟨as, r1⟩ := Dp.reads I dx.toP x v (RepB.dp 16 hx z1) rx
      obtain ⟨bs, r2⟩ := Dp.reads I (D.lst ys).toP y u (RepB.dp 16 hy fy) ry
      refine SeqAt.notIn_list_reads r2 r1 (SeqAt.canLay_of_shaped (D.shaped fy)) (SeqAt.canLay_of_shaped (D.shaped z1)) (PyProof.Rows.room_in_shaped (D.shaped z1) hu) ?_
      rw [any_toPs z1 z2]
      exact done m I
  | tup ys =>
    cases z : (dx.fit 16 && D.fits 15 ys) with
    | false =>
      have : dMem dx (.tup ys) = none := by rw [dMem_tup, z]; rfl
      unfold dNin at e; rw [this] at e; cases e
    | true =>
      have m : dMem dx (.tup ys) = some (ys.any fun z => D.eqv z dx) := by rw [dMem_tup, z]; rfl
      obtain ⟨z1, z2⟩ := Bool.and_eq_true_iff.mp z
      have fy : (D.tup ys).fit 16 = true := z2
      obtain ⟨as, r1⟩ := Dp.reads I dx.toP x v (RepB.dp 16 hx z1) rx
      obtain ⟨bs, r2⟩ := Dp.reads I (D.tup ys).toP y u (RepB.dp 16 hy fy) ry
      refine SeqAt.notIn_tuple_reads r2 r1 (SeqAt.canLay_of_shaped (D.shaped fy)) (SeqAt.canLay_of_shaped (D.shaped z1)) (PyProof.Rows.room_in_shaped (D.shaped z1) hu) ?_
      rw [any_toPs z1 z2]
      exact done m I
  | dk ds =>
    cases z : keyD dx with
    | none =>
      have : dMem dx (.dk ds) = none := by rw [dMem_dk, z]; rfl
      unfold dNin at e; rw [this] at e; cases e
    | some k =>
      have m : dMem dx (.dk ds) = some (hasK ds k) := by rw [dMem_dk, z]; rfl
      obtain ⟨a, kvs, rfl, h1, h2, h3⟩ := hy.dk_eq
      have ex := keyD_rep hx z
      subst ex
      obtain rfl : u = Value.ref a := ry
      have g : DGet H a (kV k) (valV kvs k) := DGet.k h1
      refine d_notIn (by omega) I g rx fun s' I' => ?_
      rw [valV_has h2]
      exact done m I'
  | str b =>
    cases dx with
    | str a =>
      have m : dMem (.str a) (.str b) = some (!(Builtin.Str.occurrences b a 0 b.length 1).isEmpty) := rfl
      obtain rfl := hx.str_eq
      obtain rfl := hy.str_eq
      exact op_notin_str pins s σ H _ _ v u Q I rx ry ⟨_, _, rfl, rfl, q _ _ (Same.refl _) (by rw [fin m]; exact .bl _)⟩
    | _ => cases e
  | _ => cases e
end
end DW

set_option Elab.async false
set_option linter.all false
set_option maxRecDepth 100000
set_option maxHeartbeats 4000000
/-! DWS: xs[i], xs[j] = a, b. -/
namespace DW
open PySem PySem.Spec L2
/-- xs[j] = d, then k -/
def putS (i : Nat) (j : E) (d : D) (k : SF) : SF := fun ev c => match ev[i]? with
  | some (.own (.lst xs)) => (j ev c).toS ev fun q c => match putR xs q d with
    | some ys => k (ev.set i (.own (.lst ys))) c
    | none => .bad
  | _ => .bad
def sSwp (i : Nat) (j1 j2 e : E) : SF := fun ev c => (e ev c).toS ev fun d c => match d with
  | .tup [x, y] => putS i j1 x (putS i j2 y fun ev c => .nx ev c) ev c
  | _ => .bad
theorem put_go {M : Md} {G : Gd} {σ : St} {H : Hp} {ev : Env} {c : Int} {i : Nat} {xs ys : List D} {k d : D} {kv v : V} {a : Addr} {Q : Hp → Prop} (g : Gk M G σ H ev c) (e1 : ev[i]? = some (.own (.lst xs))) (h1 : σ[i]? = some (some (.ref a)))
    (rk : RepB M H (G.O σ ev) G.L kv k) (r : Rep M H (G.O σ ev) G.L v d) (e : putR xs k d = some ys)
    (q : ∀ H3, Gk M G σ H3 (ev.set i (.own (.lst ys))) c → Fz (G.O σ ev) H (G.O σ (ev.set i (.own (.lst ys)))) H3 → Q H3) :
    rSetL (.ref a) kv v H Q := by
  obtain ⟨a', vs, q1, q2, q3⟩ := g.lst e1
  rw [h1] at q1; cases q1
  unfold putR at e
  split at e
  · rename_i k
    obtain rfl := rk.int_eq
    cases e2 : ixN xs.length k with
    | none => rw [e2] at e; cases e
    | some n =>
      rw [e2] at e
      cases e
      have z := g.updOwn (ho := .lst (vs.set n v)) e1 h1 (.lst (q3.set r n))
      exact ⟨a, vs, k, n, rfl, rfl, q2, by rw [RepA.length q3]; exact e2, q _ z.1 z.2⟩
  · cases e
section
variable {X : Cx} {xo : Xo} {lo : Bool} {B : Blk} {x : Str} {e : Expr} {fe : E} {pos : Pos}
theorem putS_post {M : Md} {G : Gd} {σ : St} {H : Hp} {ev : Env} {c : Int} {W : WX} {D' : Ends} {i : Nat} {d : D} {v : V} {fj : E} {k : SF} {Q : Hp → Prop} (g : Gk M G σ H ev c) (hx : G.xo = xo) (r : Rep M H (G.O σ ev) G.L v d) (h : PostS M lo G σ H ev W D' (putS i fj d k ev c))
    (q : ∀ ev' H' c', Gk M G σ H' ev' c' → Fz (G.O σ ev) H (G.O σ ev') H' → PostS M lo G σ H' ev' W D' (k ev' c') → Q H') :
    ∃ o, σ[i]? = some (some o) ∧ tG M xo (rBo M) fj W σ H fun kv H2 => rSetL o kv v H2 Q := by
  unfold putS at h
  split at h
  · rename_i xs e1
    obtain ⟨a, vs, q1, q2, q3⟩ := g.lst e1
    refine ⟨_, q1, tG.mk g hx (PostS.bind g h fun kd c2 kv H2 s2 k2 g2 r2 h3 => ?_)⟩
    cases e2 : putR xs kd d with
    | none => rw [e2] at h3; exact h3.elim
    | some ys =>
      rw [e2] at h3
      exact put_go g2 e1 q1 r2 (Rep.sm s2 r) e2 fun H3 g3 F3 => q _ H3 c2 g3 ((Gd.fzSm s2).trans F3) (PostS.from h3 F3)
  · exact h.elim
theorem ScX.swp (S : ScX X B) (i : Nat) {j1 j2 : Expr} {f1 f2 : E} {p1 sp1 p2 sp2 tp : Pos} {kt : Nat} (h : B.var i x = true) (h1 : DB X xo j1 f1) (h2 : DB X xo j2 f2) (he : DE X xo e fe)
    (hs : swapsWithSole [.Tuple [.Subscript (.Name x p1) j1 sp1, .Subscript (.Name x p2) j2 sp2] kt tp] e pos.line X.env = pure false := by rfl) (hw : swappedStores [.Tuple [.Subscript (.Name x p1) j1 sp1, .Subscript (.Name x p2) j2 sp2] kt tp] e X.env = pure none := by rfl)
    (h1' : (assignEach [.Tuple [.Subscript (.Name x p1) j1 sp1, .Subscript (.Name x p2) j2 sp2] kt tp] X.env).map (·.2) = [assign (.Tuple [.Subscript (.Name x p1) j1 sp1, .Subscript (.Name x p2) j2 sp2] kt tp) X.env] := by rfl)
    (a1 : ∀ v, assign (.Subscript (.Name x p1) j1 sp1) X.env v = (do
      let ov ← holding [v] (eval (.Name x p1) X.env)
      let iv ← holding [v, ov] (eval j1 X.env)
      standAt sp1
      holding [v, ov, iv] (setItem ov iv v)
      release [v, ov, iv] []) := by intro _; rfl)
    (a2 : ∀ v, assign (.Subscript (.Name x p2) j2 sp2) X.env v = (do
      let ov ← holding [v] (eval (.Name x p2) X.env)
      let iv ← holding [v, ov] (eval j2 X.env)
      standAt sp2
      holding [v, ov, iv] (setItem ov iv v)
      release [v, ov, iv] []) := by intro _; rfl)
    (hn : (assignEach [.Subscript (.Name x p1) j1 sp1, .Subscript (.Name x p2) j2 sp2] X.env).length = 2 := by rfl) (hst : (assignEach [.Subscript (.Name x p1) j1 sp1, .Subscript (.Name x p2) j2 sp2] X.env).findIdx? (·.1) = none := by rfl)
    (c1 : (assignEach [.Subscript (.Name x p1) j1 sp1, .Subscript (.Name x p2) j2 sp2] X.env).map (·.2) = assign (.Subscript (.Name x p1) j1 sp1) X.env :: (assignEach [.Subscript (.Name x p2) j2 sp2] X.env).map (·.2) := by rfl)
    (c2 : (assignEach [.Subscript (.Name x p2) j2 sp2] X.env).map (·.2) = assign (.Subscript (.Name x p2) j2 sp2) X.env :: (assignEach [] X.env).map (·.2) := by rfl) :
    DS X xo lo (.Assign [.Tuple [.Subscript (.Name x p1) j1 sp1, .Subscript (.Name x p2) j2 sp2] kt tp] e pos) (sSwp i f1 f2 fe) := fun W hW => by
  refine PSimp (ps_asg (he W hW) (pg_tup S.calm (pgs_cons (pg_sub (pe_own S h) (h1 W hW) set_list a1) (pgs_cons (pg_sub (pe_own S h) (h2 W hW) set_list a2) pgs_nil c2) c1) hn hst) hs hw h1') fun D' σ H h => ?_
  obtain ⟨G, ev, c, k, hx, h⟩ := h
  unfold sSwp at h
  refine tG.mk k hx (PostS.bind k h fun d c1 v H1 s1 k1 g1 r1 h2 => ?_)
  split at h2
  · rename_i x y
    obtain ⟨a, vs, rfl, z2, z3⟩ := Rep.tup_eq r1
    refine ⟨a, vs, rfl, z2, by rw [RepA.length z3]; rfl, ?_⟩
    cases z3 with
    | cons rx z3 =>
      cases z3 with
      | cons ry z3 =>
        cases z3
        refine ⟨_, _, rfl, ?_⟩
        refine putS_post g1 hx rx h2 fun ev' H' c' g' F' h' => ?_
        refine ⟨_, _, rfl, ?_⟩
        refine putS_post g' hx (Rep.fz F' (fun _ z => z) ry) h' fun ev2 H2 c2 g2 F2 hh => ?_
        exact ⟨rfl, hh _ _ g2 (fz_sub fun _ z => z)⟩
  · exact h2.elim
end
end DW

set_option Elab.async false
set_option linter.all false
set_option maxRecDepth 100000
set_option maxHeartbeats 4000000
/-! DWC2: comprehensions of two clauses. -/
namespace DW
open PySem PySem.Spec L2
/-- the items of a comprehension of two clauses -/
def lcL2 (p : Pt) (t : T) (it1 : EL) (p1 : Pt) (t1 : T) (e : E) (vs1 : List Nat) (ev : Env) : List D → Int → R (List D)
  | [], c => .ok [] c
  | d :: ds, c => match bindP p d ev with
    | none => .bad
    | some ev1 => (t ev1 c).bind fun k c => if k = true then (it1 ev1 c).bind fun ds1 c => if ownFree vs1 ev1 = true then (lcL p1 t1 e (wipeE vs1 ev1) ds1 c).bind fun ys c => (lcL2 p t it1 p1 t1 e vs1 ev ds c).bind fun zs c => .ok (ys ++ zs) c else .bad else lcL2 p t it1 p1 t1 e vs1 ev ds c
def eLc2 (it : EL) (p : Pt) (t : T) (it1 : EL) (p1 : Pt) (t1 : T) (e : E) (vs vs1 : List Nat) : E := fun ev c => (it ev c).bind fun ds c => if ownFree vs ev = true then R.noX ((lcL2 p t it1 p1 t1 e vs1 (wipeE vs ev) ds c).bind fun ys c => if ys.length ≤ sizeLine then .ok (.lst ys) c else .bad) else .bad
/-- behind a target's store the own things of the wiped frame stand -/
theorem O_bind {G : Gd} {p : Pt} {d : D} {ev ev' : Env} {σ σ' : St} {vs : List Nat} (hsl : ∀ i ∈ p.slots, i ∈ vs) (e1 : bindP p d (wipeE vs ev) = some ev') (hw : wipe σ' vs = wipe σ vs) (a : Addr) (z : G.O (wipe σ vs) (wipeE vs ev) a) : G.O σ' ev' a := by
  rcases z with z | z | ⟨j, d, q1, q2⟩ | z
  · exact .inl z
  · exact .inr (.inl z)
  · have hj : j ∉ vs := fun hj => by
      rw [wipeE_get] at q1
      by_cases q : j < ev.length
      · rw [if_pos ⟨hj, q⟩] at q1; cases q1
      · rw [if_neg (fun z => q z.2), List.getElem?_eq_none (by omega)] at q1; cases q1
    refine .inr (.inr (.inl ⟨j, d, by rw [bindP_out p e1 fun z => hj (hsl j z)]; exact q1, ?_⟩))
    have q3 : (wipe σ' vs)[j]? = some (some (V.ref a)) := by rw [hw]; exact q2
    rw [wipe_get, if_neg fun z => hj z.1] at q3
    exact q3
  · exact .inr (.inr (.inr z))
theorem lc2_read {M : Md} {G : Gd} {σ : St} {H1 : Hp} {ev : Env} {c1 : Int} {W : WX} {Q : VK} {xo : Xo} {p p1 : Pt} {t t1 : T} {it1 : EL} {e : E} {vs vs1 : List Nat} {J : It} {ds : List D} (hsl : p.slots.all (vs.contains ·) = true) (hsl1 : p1.slots.all (vs1.contains ·) = true) (hvv : vs1.all (vs.contains ·) = true)
    (hx : G.xo = xo) (g1 : Gk M G σ H1 ev c1) (y : Yl M G.L (rstC (G.O σ ev) G.L H1) J ds)
    (h1 : PostF M G σ H1 ev W Q (if ownFree vs ev = true then R.noX ((lcL2 p t it1 p1 t1 e vs1 (wipeE vs ev) ds c1).bind fun ys c => if ys.length ≤ sizeLine then .ok (.lst ys) c else .bad) else .bad)) :
    ∀ D, H1 D = none → ∃ Wi : Nat → Nat → Hp → Prop, (∃ m, Wi 0 m (upd H1 D (.lst []))) ∧ ∀ i m H, Wi i m H →
      (J.stop i H ∧ Q (.ref D) H) ∨ (J.go i H ∧ ∃ Nx : Hp → Prop, (∀ H', Nx H' → ∃ m', m' < m ∧ Wi (i + 1) m' H') ∧ ∀ x H', J.yld i H x H' → gPt M.K p x (wipe σ vs) H' fun σ2 H2 => wipe σ2 vs = wipe σ vs ∧ tG M xo rB t W0 σ2 H2 fun b H3 =>
        if b = true then tG M xo (rYs M) it1 W0 σ2 H3 fun J1 H4 => ∃ W1 : Nat → Nat → Hp → Prop, (∃ m, W1 0 m H4) ∧ ∀ j k H, W1 j k H →
          (J1.stop j H ∧ Nx H) ∨ (J1.go j H ∧ ∃ Nx1 : Hp → Prop, (∀ H', Nx1 H' → ∃ k', k' < k ∧ W1 (j + 1) k' H') ∧ ∀ x H', J1.yld j H x H' → gPt M.K p1 x (wipe σ2 vs1) H' fun σ3 H5 => wipe σ3 vs1 = wipe σ2 vs1 ∧ tG M xo rB t1 W0 σ3 H5 fun b H6 =>
            if b = true then tG M xo (rD M) e W0 σ3 H6 fun y H7 => ∃ acc, H7 D = some (.lst acc) ∧ acc.length < sizeLine ∧ Nx1 (upd H7 D (.lst (acc ++ [y]))) else Nx1 H6)
        else Nx H3) := by
  intro D0 hD
  have hsl : ∀ i ∈ p.slots, i ∈ vs := fun i hi => by
    rw [List.all_eq_true] at hsl
    simpa using hsl i hi
  have hsl1 : ∀ i ∈ p1.slots, i ∈ vs1 := fun i hi => by
    rw [List.all_eq_true] at hsl1
    simpa using hsl1 i hi
  have hvv : ∀ i ∈ vs1, i ∈ vs := fun i hi => by
    rw [List.all_eq_true] at hvv
    simpa using hvv i hi
  by_cases hof : ownFree vs ev = true
  · rw [if_pos hof] at h1
    have gw : Gk M G (wipe σ vs) H1 (wipeE vs ev) c1 := g1.wipe vs
    have hOw : G.O (wipe σ vs) (wipeE vs ev) = G.O σ ev := O_wipe vs hof g1.len
    have hO2 : ∀ (acc : List D) a, (G.tm ((D0, D.lst acc) :: G.Tm)).O (wipe σ vs) (wipeE vs ev) a ↔ (G.O σ ev a ∨ a = D0) := fun acc a => by
      rw [← hOw]
      constructor
      · rintro (z | z | z | z)
        · exact .inl (.inl z)
        · exact .inl (.inr (.inl z))
        · exact .inl (.inr (.inr (.inl z)))
        · rcases List.mem_cons.mp z with z | z
          · exact .inr z
          · exact .inl (.inr (.inr (.inr z)))
      · rintro ((z | z | z | z) | z)
        · exact .inl z
        · exact .inr (.inl z)
        · exact .inr (.inr (.inl z))
        · exact .inr (.inr (.inr (List.mem_cons_of_mem _ z)))
        · rw [z]; exact .inr (.inr (.inr List.mem_cons_self))
    have rest : ∀ {acc : List D} {H2 : Hp} {c2 : Int}, Gk M (G.tm ((D0, D.lst acc) :: G.Tm)) (wipe σ vs) H2 (wipeE vs ev) c2 → Sm G.L H1 H2 → rstC (G.O σ ev) G.L H1 H2 ((G.tm ((D0, D.lst acc) :: G.Tm)).O (wipe σ vs) (wipeE vs ev)) := fun {acc H2 c2} g s => by
      refine ⟨⟨fun a o e n => ⟨s a o e fun z => n (.inr (.inl z)), fun z => ?_⟩, fun a => g.tr⟩, s⟩
      rcases (hO2 acc a).mp z with z | z
      · exact n z
      · rw [z, hD] at e; cases e
    refine ⟨fun i m H2 => ∃ acc c2, m = ds.length - i ∧ i ≤ ds.length ∧ Gk M (G.tm ((D0, D.lst acc) :: G.Tm)) (wipe σ vs) H2 (wipeE vs ev) c2 ∧ Sm G.L H1 H2 ∧
      PostF M G σ H1 ev W Q (R.noX ((lcL2 p t it1 p1 t1 e vs1 (wipeE vs ev) (ds.drop i) c2).bind fun ys c => if (acc ++ ys).length ≤ sizeLine then .ok (.lst (acc ++ ys)) c else .bad)), ⟨ds.length, [], c1, rfl, Nat.zero_le _, ?_, .of_same (same_updN hD), h1⟩, ?_⟩
    · exact (gw.push (.of_same (same_updN hD)) (gw.cell.same (same_updN hD)) hD upd_same (.lst .nil)).1
    rintro i m H2 ⟨acc, c2, rfl, hi, g2, s2, h2⟩
    by_cases hl : i < ds.length
    · right
      have ed : ds[i]? = some ds[i] := List.getElem?_eq_getElem hl
      rw [List.drop_eq_getElem_cons hl] at h2
      unfold lcL2 at h2
      refine ⟨y.go i H2 _ (rest g2 s2) hl, fun H3 => ∃ acc c3, Gk M (G.tm ((D0, D.lst acc) :: G.Tm)) (wipe σ vs) H3 (wipeE vs ev) c3 ∧ Sm G.L H1 H3 ∧
        PostF M G σ H1 ev W Q (R.noX ((lcL2 p t it1 p1 t1 e vs1 (wipeE vs ev) (ds.drop (i + 1)) c3).bind fun ys c => if (acc ++ ys).length ≤ sizeLine then .ok (.lst (acc ++ ys)) c else .bad)), fun H' ⟨acc, c3, g3, s3, h3⟩ => ⟨ds.length - (i + 1), by omega, acc, c3, rfl, hl, g3, s3, h3⟩, fun x H3 yy => ?_⟩
      obtain ⟨sm, rx⟩ := y.yld i H2 _ _ x H3 (rest g2 s2) ed yy
      have g3 := g2.same sm
      have s3 : Sm G.L H1 H3 := s2.trans (.of_same sm)
      cases e1 : bindP p ds[i] (wipeE vs ev) with
      | none => rw [e1] at h2; exact h2.elim
      | some ev3 =>
        rw [e1] at h2
        dsimp only at h2
        refine gPt_ok p g3 rx e1 fun σ4 g4 F4 hw => ⟨(hw vs hsl).trans wipe_wipe, ?_⟩
        have hw4 : wipe σ4 vs = wipe σ vs := (hw vs hsl).trans wipe_wipe
        have sG : (G.tm ((D0, D.lst acc) :: G.Tm)).xo = xo := hx
        refine tG.mk g4 sG ?_
        cases e2 : t ev3 c2 with
        | bad => rw [e2] at h2; exact h2
        | exc z c' => rw [e2] at h2; exact h2.elim
        | ok kb c4 =>
          rw [e2] at h2
          intro b H4 s4 k4 rb
          have rb : b = kb := rb
          subst rb
          have g4' := g4.sm s4 k4
          have s14 : Sm G.L H1 H4 := s3.trans s4
          cases b with
          | false =>
            rw [if_neg Bool.false_ne_true]
            exact ⟨acc, c4, g3.sm s4 k4, s14, h2⟩
          | true =>
            rw [if_pos rfl]
            refine tG.mk g4' sG ?_
            have h2 : PostF M G σ H1 ev W Q (R.noX (((it1 ev3 c4).bind fun ds1 c => if ownFree vs1 ev3 = true then (lcL p1 t1 e (wipeE vs1 ev3) ds1 c).bind fun ys c => (lcL2 p t it1 p1 t1 e vs1 (wipeE vs ev) (ds.drop (i + 1)) c).bind fun zs c => .ok (ys ++ zs) c else .bad).bind fun ys c => if (acc ++ ys).length ≤ sizeLine then .ok (.lst (acc ++ ys)) c else .bad)) := h2
            cases e3 : it1 ev3 c4 with
            | bad => rw [e3] at h2; exact h2
            | exc z c' => rw [e3] at h2; exact h2.elim
            | ok ds1 c5 =>
              rw [e3] at h2
              have h2 : PostF M G σ H1 ev W Q (R.noX ((if ownFree vs1 ev3 = true then (lcL p1 t1 e (wipeE vs1 ev3) ds1 c5).bind fun ys c => (lcL2 p t it1 p1 t1 e vs1 (wipeE vs ev) (ds.drop (i + 1)) c).bind fun zs c => .ok (ys ++ zs) c else .bad).bind fun ys c => if (acc ++ ys).length ≤ sizeLine then .ok (.lst (acc ++ ys)) c else .bad)) := h2
              by_cases hof1 : ownFree vs1 ev3 = true
              case neg => rw [if_neg hof1] at h2; exact h2.elim
              rw [if_pos hof1] at h2
              intro J1 H5 s5 k5 y1
              have gO5 := (g3.sm s4 k4).sm s5 k5
              have gI5 := (g4'.sm s5 k5).wipe vs1
              have s15 : Sm G.L H1 H5 := s14.trans s5
              -- the own things of the turn's frame
              have hOI : ∀ acc : List D, (G.tm ((D0, D.lst acc) :: G.Tm)).O (wipe σ4 vs1) (wipeE vs1 ev3) = (G.tm ((D0, D.lst []) :: G.Tm)).O σ4 ev3 := fun acc' => O_wipe (G := G.tm ((D0, D.lst acc') :: G.Tm)) vs1 hof1 g4.len
              have subO : ∀ (acc : List D) a, (G.tm ((D0, D.lst acc) :: G.Tm)).O (wipe σ vs) (wipeE vs ev) a → (G.tm ((D0, D.lst acc) :: G.Tm)).O (wipe σ4 vs1) (wipeE vs1 ev3) a := fun acc' a z => by
                rw [hOI acc']
                exact O_bind (G := G.tm ((D0, D.lst acc') :: G.Tm)) hsl e1 hw4 a z
              refine ⟨fun j k H6 => ∃ acc c6, k = ds1.length - j ∧ j ≤ ds1.length ∧ Gk M (G.tm ((D0, D.lst acc) :: G.Tm)) (wipe σ vs) H6 (wipeE vs ev) c6 ∧ Gk M (G.tm ((D0, D.lst acc) :: G.Tm)) (wipe σ4 vs1) H6 (wipeE vs1 ev3) c6 ∧ Sm G.L H1 H6 ∧ Fz ((G.tm ((D0, D.lst []) :: G.Tm)).O σ4 ev3) H5 ((G.tm ((D0, D.lst []) :: G.Tm)).O σ4 ev3) H6 ∧
                PostF M G σ H1 ev W Q (R.noX (((lcL p1 t1 e (wipeE vs1 ev3) (ds1.drop j) c6).bind fun ys c => (lcL2 p t it1 p1 t1 e vs1 (wipeE vs ev) (ds.drop (i + 1)) c).bind fun zs c => .ok (ys ++ zs) c).bind fun ys c => if (acc ++ ys).length ≤ sizeLine then .ok (.lst (acc ++ ys)) c else .bad)),
                ⟨ds1.length, acc, c5, rfl, Nat.zero_le _, gO5, gI5, s15, Fz.refl, h2⟩, ?_⟩
              rintro j k H6 ⟨acc6, c6, rfl, hj, gO, gI, s16, F6, h6⟩
              have r6 : rstS ((G.tm ((D0, D.lst acc) :: G.Tm)).O σ4 ev3) H5 H6 ((G.tm ((D0, D.lst acc6) :: G.Tm)).O (wipe σ4 vs1) (wipeE vs1 ev3)) := by
                rw [hOI acc6]
                exact ⟨F6, fun a z => gI.tr (by rw [hOI acc6]; exact z)⟩
              by_cases hl1 : j < ds1.length
              · right
                have ed1 : ds1[j]? = some ds1[j] := List.getElem?_eq_getElem hl1
                rw [List.drop_eq_getElem_cons hl1] at h6
                unfold lcL at h6
                refine ⟨y1.go j H6 _ r6 hl1, fun H7 => ∃ acc c7, Gk M (G.tm ((D0, D.lst acc) :: G.Tm)) (wipe σ vs) H7 (wipeE vs ev) c7 ∧ Gk M (G.tm ((D0, D.lst acc) :: G.Tm)) (wipe σ4 vs1) H7 (wipeE vs1 ev3) c7 ∧ Sm G.L H1 H7 ∧ Fz ((G.tm ((D0, D.lst []) :: G.Tm)).O σ4 ev3) H5 ((G.tm ((D0, D.lst []) :: G.Tm)).O σ4 ev3) H7 ∧
                  PostF M G σ H1 ev W Q (R.noX (((lcL p1 t1 e (wipeE vs1 ev3) (ds1.drop (j + 1)) c7).bind fun ys c => (lcL2 p t it1 p1 t1 e vs1 (wipeE vs ev) (ds.drop (i + 1)) c).bind fun zs c => .ok (ys ++ zs) c).bind fun ys c => if (acc ++ ys).length ≤ sizeLine then .ok (.lst (acc ++ ys)) c else .bad)),
                  fun H' ⟨acc, c7, a1, a2, a3, a4, a5⟩ => ⟨ds1.length - (j + 1), by omega, acc, c7, rfl, hl1, a1, a2, a3, a4, a5⟩, fun x1 H7 yy1 => ?_⟩
                obtain ⟨sm7, rx7⟩ := y1.yld j H6 _ _ x1 H7 r6 ed1 yy1
                have gO7 := gO.same sm7
                have gI7 := gI.same sm7
                have s17 : Sm G.L H1 H7 := s16.trans (.of_same sm7)
                have F7 : Fz ((G.tm ((D0, D.lst []) :: G.Tm)).O σ4 ev3) H5 ((G.tm ((D0, D.lst []) :: G.Tm)).O σ4 ev3) H7 := F6.trans fun a o e n => ⟨sm7 a o e, n⟩
                cases e4 : bindP p1 ds1[j] (wipeE vs1 ev3) with
                | none => rw [e4] at h6; exact h6.elim
                | some ev5 =>
                  rw [e4] at h6
                  dsimp only at h6
                  refine gPt_ok p1 gI7 rx7 e4 fun σ6 g6 F8 hw1 => ⟨(hw1 vs1 hsl1).trans wipe_wipe, ?_⟩
                  have hw6 : wipe σ6 vs1 = wipe σ4 vs1 := (hw1 vs1 hsl1).trans wipe_wipe
                  have sub6 : ∀ (acc : List D) a, (G.tm ((D0, D.lst acc) :: G.Tm)).O (wipe σ4 vs1) (wipeE vs1 ev3) a → (G.tm ((D0, D.lst acc) :: G.Tm)).O σ6 ev5 a := fun acc' a z => O_bind (G := G.tm ((D0, D.lst acc') :: G.Tm)) hsl1 e4 hw6 a z
                  refine tG.mk g6 sG ?_
                  cases e5 : t1 ev5 c6 with
                  | bad => rw [e5] at h6; exact h6
                  | exc z c' => rw [e5] at h6; exact h6.elim
                  | ok kb1 c8 =>
                    rw [e5] at h6
                    intro b1 H8 s8 k8 rb1
                    have rb1 : b1 = kb1 := rb1
                    subst rb1
                    have g6' := g6.sm s8 k8
                    have F8' : Fz ((G.tm ((D0, D.lst []) :: G.Tm)).O σ4 ev3) H5 ((G.tm ((D0, D.lst []) :: G.Tm)).O σ4 ev3) H8 := F7.trans fun a o e n => ⟨s8 a o e fun z => n (.inr (.inl z)), n⟩
                    cases b1 with
                    | false =>
                      rw [if_neg Bool.false_ne_true]
                      exact ⟨acc6, c8, gO7.sm s8 k8, gI7.sm s8 k8, s17.trans s8, F8', h6⟩
                    | true =>
                      rw [if_pos rfl]
                      refine tG.mk g6' sG ?_
                      have h6 : PostF M G σ H1 ev W Q (R.noX ((((e ev5 c8).bind fun y c => (lcL p1 t1 e (wipeE vs1 ev3) (ds1.drop (j + 1)) c).bind fun ys c => .ok (y :: ys) c).bind fun ys c => (lcL2 p t it1 p1 t1 e vs1 (wipeE vs ev) (ds.drop (i + 1)) c).bind fun zs c => .ok (ys ++ zs) c).bind fun ys c => if (acc6 ++ ys).length ≤ sizeLine then .ok (.lst (acc6 ++ ys)) c else .bad)) := h6
                      cases e6 : e ev5 c8 with
                      | bad => rw [e6] at h6; exact h6
                      | exc z c' => rw [e6] at h6; exact h6.elim
                      | ok yd c9 =>
                        rw [e6] at h6
                        intro yv H9 s9 k9 ry
                        have gO9 := (gO7.sm s8 k8).sm s9 k9
                        have gI9 := (gI7.sm s8 k8).sm s9 k9
                        have ryI : Rep M H9 ((G.tm ((D0, D.lst acc6) :: G.Tm)).O (wipe σ4 vs1) (wipeE vs1 ev3)) G.L yv yd := Rep.fz (fz_sub (sub6 acc6)) (fun _ z => z) ry
                        have ryO : Rep M H9 ((G.tm ((D0, D.lst acc6) :: G.Tm)).O (wipe σ vs) (wipeE vs ev)) G.L yv yd := Rep.fz (fz_sub (subO acc6)) (fun _ z => z) ryI
                        obtain ⟨h0, ho, q1, q2⟩ := gO9.tm (D0, D.lst acc6) List.mem_cons_self
                        obtain ⟨h0', ho', q1', q2'⟩ := gI9.tm (D0, D.lst acc6) List.mem_cons_self
                        cases q2 with
                        | lst q2 =>
                          rename_i vsD
                          rw [q1] at q1'
                          cases q1'
                          cases q2' with
                          | lst q2' =>
                            have q2 : RepA M H9 ((G.tm ((D0, D.lst acc6) :: G.Tm)).O (wipe σ vs) (wipeE vs ev)) G.L vsD acc6 := q2
                            have q2' : RepA M H9 ((G.tm ((D0, D.lst acc6) :: G.Tm)).O (wipe σ4 vs1) (wipeE vs1 ev3)) G.L vsD acc6 := q2'
                            have h7 : PostF M G σ H1 ev W Q (R.noX (((lcL p1 t1 e (wipeE vs1 ev3) (ds1.drop (j + 1)) c9).bind fun ys c => (lcL2 p t it1 p1 t1 e vs1 (wipeE vs ev) (ds.drop (i + 1)) c).bind fun zs c => .ok (ys ++ zs) c).bind fun ys c => if ((acc6 ++ [yd]) ++ ys).length ≤ sizeLine then .ok (.lst ((acc6 ++ [yd]) ++ ys)) c else .bad)) ∧ vsD.length < sizeLine := by
                              have h6 : PostF M G σ H1 ev W Q (R.noX ((((lcL p1 t1 e (wipeE vs1 ev3) (ds1.drop (j + 1)) c9).bind fun ys c => .ok (yd :: ys) c).bind fun ys c => (lcL2 p t it1 p1 t1 e vs1 (wipeE vs ev) (ds.drop (i + 1)) c).bind fun zs c => .ok (ys ++ zs) c).bind fun ys c => if (acc6 ++ ys).length ≤ sizeLine then .ok (.lst (acc6 ++ ys)) c else .bad)) := h6
                              cases e7 : lcL p1 t1 e (wipeE vs1 ev3) (ds1.drop (j + 1)) c9 with
                              | bad => rw [e7] at h6; exact h6.elim
                              | exc z c' => rw [e7] at h6; exact h6.elim
                              | ok ys c10 =>
                                rw [e7] at h6
                                have h6 : PostF M G σ H1 ev W Q (R.noX (((lcL2 p t it1 p1 t1 e vs1 (wipeE vs ev) (ds.drop (i + 1)) c10).bind fun zs c => .ok ((yd :: ys) ++ zs) c).bind fun ys c => if (acc6 ++ ys).length ≤ sizeLine then .ok (.lst (acc6 ++ ys)) c else .bad)) := h6
                                show PostF M G σ H1 ev W Q (R.noX (((lcL2 p t it1 p1 t1 e vs1 (wipeE vs ev) (ds.drop (i + 1)) c10).bind fun zs c => .ok (ys ++ zs) c).bind fun ys c => if ((acc6 ++ [yd]) ++ ys).length ≤ sizeLine then .ok (.lst ((acc6 ++ [yd]) ++ ys)) c else .bad)) ∧ _
                                cases e8 : lcL2 p t it1 p1 t1 e vs1 (wipeE vs ev) (ds.drop (i + 1)) c10 with
                                | bad => rw [e8] at h6; exact h6.elim
                                | exc z c' => rw [e8] at h6; exact h6.elim
                                | ok zs c11 =>
                                  rw [e8] at h6
                                  have h6 : PostF M G σ H1 ev W Q (R.noX (if (acc6 ++ ((yd :: ys) ++ zs)).length ≤ sizeLine then .ok (.lst (acc6 ++ ((yd :: ys) ++ zs))) c11 else .bad)) := h6
                                  have eq : (acc6 ++ [yd]) ++ (ys ++ zs) = acc6 ++ ((yd :: ys) ++ zs) := by simp
                                  refine ⟨?_, ?_⟩
                                  · show PostF M G σ H1 ev W Q (R.noX (if ((acc6 ++ [yd]) ++ (ys ++ zs)).length ≤ sizeLine then .ok (.lst ((acc6 ++ [yd]) ++ (ys ++ zs))) c11 else .bad))
                                    rw [eq]
                                    exact h6
                                  · by_cases hz : (acc6 ++ ((yd :: ys) ++ zs)).length ≤ sizeLine
                                    · have ll := RepA.length q2
                                      simp only [List.length_append, List.length_cons] at hz
                                      omega
                                    · rw [if_neg hz] at h6; exact h6.elim
                            refine ⟨vsD, q1, h7.2, acc6 ++ [yd], c9, gO9.updTm (.lst (q2.append (.cons ryO .nil))), gI9.updTm (.lst (q2'.append (.cons ryI .nil))), ?_, ?_, h7.1⟩
                            · intro a o e n
                              by_cases ha : a = D0
                              · rw [ha, hD] at e; cases e
                              · rw [upd_ne ha]; exact s9 a o (s8 a o (s17 a o e n) n) n
                            · intro a o e n
                              obtain ⟨z1, z2⟩ := F8' a o e n
                              have ha : a ≠ D0 := fun z => n (by rw [z]; exact .inr (.inr (.inr List.mem_cons_self)))
                              exact ⟨by rw [upd_ne ha]; exact s9 a o z1 fun z => n (.inr (.inl z)), z2⟩
              · left
                have e0 : j = ds1.length := by omega
                subst e0
                rw [List.drop_length] at h6
                refine ⟨y1.stop H6 _ r6, acc6, c6, gO, s16, ?_⟩
                have h6 : PostF M G σ H1 ev W Q (R.noX (((lcL2 p t it1 p1 t1 e vs1 (wipeE vs ev) (ds.drop (i + 1)) c6).bind fun zs c => .ok ([] ++ zs) c).bind fun ys c => if (acc6 ++ ys).length ≤ sizeLine then .ok (.lst (acc6 ++ ys)) c else .bad)) := h6
                cases e8 : lcL2 p t it1 p1 t1 e vs1 (wipeE vs ev) (ds.drop (i + 1)) c6 with
                | bad => rw [e8] at h6; exact h6.elim
                | exc z c' => rw [e8] at h6; exact h6.elim
                | ok zs c11 =>
                  rw [e8] at h6
                  exact h6
    · left
      have e0 : i = ds.length := by omega
      subst e0
      rw [List.drop_length] at h2
      refine ⟨y.stop H2 _ (rest g2 s2), ?_⟩
      have h2 : PostF M G σ H1 ev W Q (R.noX (if (acc ++ []).length ≤ sizeLine then .ok (.lst (acc ++ [])) c2 else .bad)) := h2
      rw [List.append_nil] at h2
      by_cases hz : acc.length ≤ sizeLine
      · rw [if_pos hz] at h2
        obtain ⟨h0, ho, q1, q2⟩ := g2.tm (D0, D.lst acc) List.mem_cons_self
        refine h2 D0 ho H2 s2 g2.cell hD q1 ?_
        have eO : (G.tm ((D0, D.lst acc) :: G.Tm)).O (wipe σ vs) (wipeE vs ev) = fun b => G.O σ ev b ∨ b = D0 := funext fun b => propext (hO2 acc b)
        rw [← eO]
        exact q2
      · rw [if_neg hz] at h2; exact h2.elim
  · rw [if_neg hof] at h1; exact h1.elim
section
variable {X : Cx} {xo : Xo} {lo : Bool} {tg iter tg1 iter1 elt : Expr} {ifs ifs1 : List Expr} {scope : Scope} {own : List (Str × Nat)} {vs vs1 : List Nat} {fi fi1 : EL} {p p1 : Pt} {t t1 : T} {f : E} {pos : Pos} {B : Blk}
theorem ScX.lc2 (S : ScX X B) (own : List (Str × Nat)) (hi : DIc X xo tg iter fi) (ok : blkC B.N B.sc scope own = true) (hv : own.map (·.2) = vs) (hsl : p.slots.all (vs.contains ·) = true) (hsl1 : p1.slots.all (vs1.contains ·) = true) (hvv : vs1.all (vs.contains ·) = true)
    (hg : InB X scope fun X' => DG X' tg p) (ht : InB X scope fun X' => DTs X' xo ifs t) (hi1 : InB X scope fun X' => DI X' xo tg1 iter1 fi1) (hg1 : InB X scope fun X' => DG X' tg1 p1) (ht1 : InB X scope fun X' => DTs X' xo ifs1 t1) (he : InB X scope fun X' => DE X' xo elt f)
    (hs : ∀ x, foldedSetIterable iter X.env x = pure x := by intro _; rfl) (hs1 : ∀ env x, foldedSetIterable iter1 env x = pure x := by intro _ _; rfl) : DF X xo (.ListComp elt [⟨tg, iter, ifs, 0⟩, ⟨tg1, iter1, ifs1, 0⟩] scope pos) (eLc2 fi p t fi1 p1 t1 f vs vs1) := fun W hW => by
  subst hv
  have hg' : ∀ (s : Shared) (H : Hp) (C : Addr) (cl : List (Str × Addr)) (fp : List Addr), PG (X.blk s H scope (compEnvC scope cl C X.env) fp) tg (gPt X.K p) := hg
  have ht' : ∀ (s : Shared) (H : Hp) (C : Addr) (cl : List (Str × Addr)) (fp : List Addr), PTs (X.blk s H scope (compEnvC scope cl C X.env) fp) ifs (tG X.md xo rB t W0) := fun s H C cl fp => ht s H C cl fp W0 takes0
  have hi' : ∀ (s : Shared) (H : Hp) (C : Addr) (cl : List (Str × Addr)) (fp : List Addr), PI (X.blk s H scope (compEnvC scope cl C X.env) fp) tg1 iter1 (tG X.md xo (rYs X.md) fi1 W0) := fun s H C cl fp => hi1 s H C cl fp W0 takes0
  have hg1' : ∀ (s : Shared) (H : Hp) (C : Addr) (cl : List (Str × Addr)) (fp : List Addr), PG (X.blk s H scope (compEnvC scope cl C X.env) fp) tg1 (gPt X.K p1) := hg1
  have ht1' : ∀ (s : Shared) (H : Hp) (C : Addr) (cl : List (Str × Addr)) (fp : List Addr), PTs (X.blk s H scope (compEnvC scope cl C X.env) fp) ifs1 (tG X.md xo rB t1 W0) := fun s H C cl fp => ht1 s H C cl fp W0 takes0
  have he' : ∀ (s : Shared) (H : Hp) (C : Addr) (cl : List (Str × Addr)) (fp : List Addr), PE (X.blk s H scope (compEnvC scope cl C X.env) fp) elt (tG X.md xo (rD X.md) f W0) := fun s H C cl fp => he s H C cl fp W0 takes0
  have hvv' : ∀ i ∈ vs1, i ∈ own.map (·.2) := fun i hi => by
    rw [List.all_eq_true] at hvv
    simpa using hvv i hi
  refine PEimp (pe_lc2 S.calm S.nd (hi W hW) (S.ok ok) hvv' hg' ht' hi' hg1' ht1' he' hs hs1) fun σ H Q h => ?_
  obtain ⟨G, ev, c, k, hx, h⟩ := h
  exact tG.mk k hx (PostF.bind k h fun ds c1 J H1 s1 k1 g1 y h1 => lc2_read hsl hsl1 hvv hx g1 y h1)
theorem ScX.ownLc2 (S : ScX X B) (i : Nat) {x : Str} {py spos : Pos} (hxt : B.tgt i x = true) (hxl : kL (B.sc.names.lookup x) = true) (own : List (Str × Nat)) (hi : DIc X xo tg iter fi) (ok : blkC B.N B.sc scope own = true) (hv : own.map (·.2) = vs) (hsl : p.slots.all (vs.contains ·) = true) (hsl1 : p1.slots.all (vs1.contains ·) = true) (hvv : vs1.all (vs.contains ·) = true)
    (hg : InB X scope fun X' => DG X' tg p) (ht : InB X scope fun X' => DTs X' xo ifs t) (hi1 : InB X scope fun X' => DI X' xo tg1 iter1 fi1) (hg1 : InB X scope fun X' => DG X' tg1 p1) (ht1 : InB X scope fun X' => DTs X' xo ifs1 t1) (he : InB X scope fun X' => DE X' xo elt f)
    (hsw : swapsWith (.ListComp elt [⟨tg, iter, ifs, 0⟩, ⟨tg1, iter1, ifs1, 0⟩] scope pos) (some (.Name x py)) spos.line X.env = pure true)
    (hs : ∀ x, foldedSetIterable iter X.env x = pure x := by intro _; rfl) (hs1 : ∀ env x, foldedSetIterable iter1 env x = pure x := by intro _ _; rfl) : DS X xo lo (.Assign [.Name x py] (.ListComp elt [⟨tg, iter, ifs, 0⟩, ⟨tg1, iter1, ifs1, 0⟩] scope pos) spos) (sOwn i (eLc2 fi p t fi1 p1 t1 f vs vs1)) := fun W hW => by
  subst hv
  have hg' : ∀ (s : Shared) (H : Hp) (C : Addr) (cl : List (Str × Addr)) (fp : List Addr), PG (X.blk s H scope (compEnvC scope cl C X.env) fp) tg (gPt X.K p) := hg
  have ht' : ∀ (s : Shared) (H : Hp) (C : Addr) (cl : List (Str × Addr)) (fp : List Addr), PTs (X.blk s H scope (compEnvC scope cl C X.env) fp) ifs (tG X.md xo rB t W0) := fun s H C cl fp => ht s H C cl fp W0 takes0
  have hi' : ∀ (s : Shared) (H : Hp) (C : Addr) (cl : List (Str × Addr)) (fp : List Addr), PI (X.blk s H scope (compEnvC scope cl C X.env) fp) tg1 iter1 (tG X.md xo (rYs X.md) fi1 W0) := fun s H C cl fp => hi1 s H C cl fp W0 takes0
  have hg1' : ∀ (s : Shared) (H : Hp) (C : Addr) (cl : List (Str × Addr)) (fp : List Addr), PG (X.blk s H scope (compEnvC scope cl C X.env) fp) tg1 (gPt X.K p1) := hg1
  have ht1' : ∀ (s : Shared) (H : Hp) (C : Addr) (cl : List (Str × Addr)) (fp : List Addr), PTs (X.blk s H scope (compEnvC scope cl C X.env) fp) ifs1 (tG X.md xo rB t1 W0) := fun s H C cl fp => ht1 s H C cl fp W0 takes0
  have he' : ∀ (s : Shared) (H : Hp) (C : Addr) (cl : List (Str × Addr)) (fp : List Addr), PE (X.blk s H scope (compEnvC scope cl C X.env) fp) elt (tG X.md xo (rD X.md) f W0) := fun s H C cl fp => he s H C cl fp W0 takes0
  have hvv' : ∀ i ∈ vs1, i ∈ own.map (·.2) := fun i hi => by
    rw [List.all_eq_true] at hvv
    simpa using hvv i hi
  obtain ⟨hN, _, _⟩ := S.tgtN hxt
  refine PSimp (ps_setLc2 S.calm S.nd hN (by rw [S.sc]; exact kL_ok hxl) hsw (hi W hW) (S.ok ok) hvv' hg' ht' hi' hg1' ht1' he' hs hs1) fun D' σ H h => ?_
  obtain ⟨G, ev, c, k, hx, h⟩ := h
  exact tG.mk k hx (PostF.bind k (PostF.toS k h) fun ds c1 J H1 s1 k1 g1 y h1 => lc2_read (Q := fun x H1 => gName i x σ H1 D'.nx) hsl hsl1 hvv hx g1 y h1)
theorem ScX.setLc2 (S : ScX X B) (i : Nat) {x : Str} {py spos : Pos} (hxt : B.tgt i x = true) (hxl : kL (B.sc.names.lookup x) = true) (own : List (Str × Nat)) (hi : DIc X xo tg iter fi) (ok : blkC B.N B.sc scope own = true) (hv : own.map (·.2) = vs) (hsl : p.slots.all (vs.contains ·) = true) (hsl1 : p1.slots.all (vs1.contains ·) = true) (hvv : vs1.all (vs.contains ·) = true)
    (hg : InB X scope fun X' => DG X' tg p) (ht : InB X scope fun X' => DTs X' xo ifs t) (hi1 : InB X scope fun X' => DI X' xo tg1 iter1 fi1) (hg1 : InB X scope fun X' => DG X' tg1 p1) (ht1 : InB X scope fun X' => DTs X' xo ifs1 t1) (he : InB X scope fun X' => DE X' xo elt f)
    (hsw : swapsWith (.ListComp elt [⟨tg, iter, ifs, 0⟩, ⟨tg1, iter1, ifs1, 0⟩] scope pos) (some (.Name x py)) spos.line X.env = pure true)
    (hs : ∀ x, foldedSetIterable iter X.env x = pure x := by intro _; rfl) (hs1 : ∀ env x, foldedSetIterable iter1 env x = pure x := by intro _ _; rfl) : DS X xo lo (.Assign [.Name x py] (.ListComp elt [⟨tg, iter, ifs, 0⟩, ⟨tg1, iter1, ifs1, 0⟩] scope pos) spos) (sSet i (eLc2 fi p t fi1 p1 t1 f vs vs1)) := fun W hW => by
  subst hv
  have hg' : ∀ (s : Shared) (H : Hp) (C : Addr) (cl : List (Str × Addr)) (fp : List Addr), PG (X.blk s H scope (compEnvC scope cl C X.env) fp) tg (gPt X.K p) := hg
  have ht' : ∀ (s : Shared) (H : Hp) (C : Addr) (cl : List (Str × Addr)) (fp : List Addr), PTs (X.blk s H scope (compEnvC scope cl C X.env) fp) ifs (tG X.md xo rB t W0) := fun s H C cl fp => ht s H C cl fp W0 takes0
  have hi' : ∀ (s : Shared) (H : Hp) (C : Addr) (cl : List (Str × Addr)) (fp : List Addr), PI (X.blk s H scope (compEnvC scope cl C X.env) fp) tg1 iter1 (tG X.md xo (rYs X.md) fi1 W0) := fun s H C cl fp => hi1 s H C cl fp W0 takes0
  have hg1' : ∀ (s : Shared) (H : Hp) (C : Addr) (cl : List (Str × Addr)) (fp : List Addr), PG (X.blk s H scope (compEnvC scope cl C X.env) fp) tg1 (gPt X.K p1) := hg1
  have ht1' : ∀ (s : Shared) (H : Hp) (C : Addr) (cl : List (Str × Addr)) (fp : List Addr), PTs (X.blk s H scope (compEnvC scope cl C X.env) fp) ifs1 (tG X.md xo rB t1 W0) := fun s H C cl fp => ht1 s H C cl fp W0 takes0
  have he' : ∀ (s : Shared) (H : Hp) (C : Addr) (cl : List (Str × Addr)) (fp : List Addr), PE (X.blk s H scope (compEnvC scope cl C X.env) fp) elt (tG X.md xo (rD X.md) f W0) := fun s H C cl fp => he s H C cl fp W0 takes0
  have hvv' : ∀ i ∈ vs1, i ∈ own.map (·.2) := fun i hi => by
    rw [List.all_eq_true] at hvv
    simpa using hvv i hi
  obtain ⟨hN, _, _⟩ := S.tgtN hxt
  refine PSimp (ps_setLc2 S.calm S.nd hN (by rw [S.sc]; exact kL_ok hxl) hsw (hi W hW) (S.ok ok) hvv' hg' ht' hi' hg1' ht1' he' hs hs1) fun D' σ H h => ?_
  obtain ⟨G, ev, c, k, hx, h⟩ := h
  have h2 : Post X.md G σ H ev W (rD X.md (G.O σ ev) G.L) (fun x H1 => gName i x σ H1 D'.nx) (eLc2 fi p t fi1 p1 t1 f (own.map (·.2)) vs1 ev c) := PostS.bind k h fun d c1 v H1 s1 k1 g1 r1 h1 => h1 _ _ (g1.setVal r1).1 (g1.setVal r1).2
  exact tG.mk k hx (PostF.bind k (Post.toF k h2) fun ds c1 J H1 s1 k1 g1 y h1 => lc2_read (Q := fun x H1 => gName i x σ H1 D'.nx) hsl hsl1 hvv hx g1 y h1)
end
end DW

set_option Elab.async false
set_option linter.all false
set_option maxRecDepth 100000
set_option maxHeartbeats 4000000
/-! DWD: dicts: comprehensions, displays, get, items, stores. -/
namespace DW
open PySem PySem.Spec L2
/-- in its place, or at the end -/
def putD (ds : List (Key × D)) (k : Key) (v : D) : List (Key × D) := if hasK ds k = true then ds.map (fun q => if q.1 = k then (q.1, v) else q) else ds ++ [(k, v)]
theorem hasK_eq : ∀ {kvs : List (Key × V)} {ds : List (Key × D)} {k : Key}, kvs.map (·.1) = ds.map (·.1) → (kvs.any fun kv => decide (kv.1 = k)) = hasK ds k
  | [], [], k, _ => rfl
  | [], _ :: _, k, h => by cases h
  | _ :: _, [], k, h => by cases h
  | p :: kvs, q :: ds, k, h => by
    rw [List.map_cons, List.map_cons] at h
    have h1 := (List.cons.inj h).1
    show (decide (p.1 = k) || _) = (decide (q.1 = k) || hasK ds k)
    rw [h1, hasK_eq (List.cons.inj h).2]
theorem putK_rep {M : Md} {H : Hp} {O : Addr → Prop} {L : Option Addr} {kvs : List (Key × V)} {ds : List (Key × D)} {k : Key} {v : V} {d : D} (e : kvs.map (·.1) = ds.map (·.1)) (r : RepA M H O L (kvs.map (·.2)) (ds.map (·.2))) (rv : Rep M H O L v d) :
    (putK kvs k v).map (·.1) = (putD ds k d).map (·.1) ∧ RepA M H O L ((putK kvs k v).map (·.2)) ((putD ds k d).map (·.2)) := by
  unfold putK putD
  rw [hasK_eq e]
  by_cases z : hasK ds k = true
  · rw [if_pos z, if_pos z]
    clear z
    induction kvs generalizing ds with
    | nil =>
      cases ds with
      | nil => exact ⟨rfl, .nil⟩
      | cons q ds => cases e
    | cons p kvs ih =>
      cases ds with
      | nil => cases e
      | cons q ds =>
        rw [List.map_cons, List.map_cons] at e
        have h1 : p.1 = q.1 := (List.cons.inj e).1
        cases r with
        | cons r1 r2 =>
          obtain ⟨i1, i2⟩ := ih (List.cons.inj e).2 r2
          simp only [List.map_cons]
          by_cases hk : p.1 = k
          · have hk' : q.1 = k := h1 ▸ hk
            rw [if_pos hk, if_pos hk']
            exact ⟨by rw [i1]; simp only [h1], .cons rv i2⟩
          · have hk' : ¬ q.1 = k := fun z => hk (h1.trans z)
            rw [if_neg hk, if_neg hk']
            exact ⟨by rw [i1, h1], .cons r1 i2⟩
  · rw [if_neg z, if_neg z]
    refine ⟨by rw [List.map_append, List.map_append, e]; rfl, ?_⟩
    rw [List.map_append, List.map_append]
    exact r.append (.cons rv .nil)
/-- the entries of a dict comprehension -/
def lcD (p : Pt) (t : T) (ke e : E) (ev : Env) : List (Key × D) → List D → Int → R (List (Key × D))
  | acc, [], c => .ok acc c
  | acc, d :: ds, c => match bindP p d ev with
    | none => .bad
    | some ev1 => (t ev1 c).bind fun b c => if b = true then (ke ev1 c).bind fun kd c => (e ev1 c).bind fun y c => match keyD kd with
      | some k => if acc.length < sizeLine then lcD p t ke e ev (putD acc k y) ds c else .bad
      | none => .bad else lcD p t ke e ev acc ds c
def eDc (it : EL) (p : Pt) (t : T) (ke e : E) (vs : List Nat) : E := fun ev c => (it ev c).bind fun ds c => if ownFree vs ev = true then R.noX ((lcD p t ke e (wipeE vs ev) [] ds c).bind fun kvs c => .ok (.dk kvs) c) else .bad
theorem dc_read {M : Md} {G : Gd} {σ : St} {H1 : Hp} {ev : Env} {c1 : Int} {W : WX} {Q : VK} {xo : Xo} {p : Pt} {t : T} {ke e : E} {vs : List Nat} {J : It} {ds : List D} (hsl : p.slots.all (vs.contains ·) = true)
    (hx : G.xo = xo) (g1 : Gk M G σ H1 ev c1) (y : Yl M G.L (rstC (G.O σ ev) G.L H1) J ds)
    (h1 : PostF M G σ H1 ev W Q (if ownFree vs ev = true then R.noX ((lcD p t ke e (wipeE vs ev) [] ds c1).bind fun kvs c => .ok (.dk kvs) c) else .bad)) :
    ∀ D, H1 D = none → ∃ Wi : Nat → Nat → Hp → Prop, (∃ m, Wi 0 m (upd H1 D (.dK []))) ∧ ∀ i m H, Wi i m H →
      (J.stop i H ∧ Q (.ref D) H) ∨ (J.go i H ∧ ∃ Nx : Hp → Prop, (∀ H', Nx H' → ∃ m', m' < m ∧ Wi (i + 1) m' H') ∧ ∀ x H', J.yld i H x H' → gPt M.K p x (wipe σ vs) H' fun σ2 H2 => wipe σ2 vs = wipe σ vs ∧ tG M xo rB t W0 σ2 H2 fun b H3 =>
        if b = true then tG M xo (rD M) ke W0 σ2 H3 fun y H4 => tG M xo (rD M) e W0 σ2 H4 fun z H5 => ∃ kvs k, y = kV k ∧ H5 D = some (.dK kvs) ∧ kvs.length < sizeLine ∧ Nx (upd H5 D (.dK (putK kvs k z))) else Nx H3) := by
  intro D0 hD
  have hsl : ∀ i ∈ p.slots, i ∈ vs := fun i hi => by
    rw [List.all_eq_true] at hsl
    simpa using hsl i hi
  by_cases hof : ownFree vs ev = true
  · rw [if_pos hof] at h1
    have gw : Gk M G (wipe σ vs) H1 (wipeE vs ev) c1 := g1.wipe vs
    have hOw : G.O (wipe σ vs) (wipeE vs ev) = G.O σ ev := O_wipe vs hof g1.len
    have hne : ∀ b, G.L = some b → b ≠ D0 := fun b z e => by rw [e] at z; exact g1.ne0 (g1.lo _ z) hD
    -- the state at a turn
    have hO2 : ∀ (acc : List (Key × D)) a, (G.tm ((D0, D.dk acc) :: G.Tm)).O (wipe σ vs) (wipeE vs ev) a ↔ (G.O σ ev a ∨ a = D0) := fun acc a => by
      rw [← hOw]
      constructor
      · rintro (z | z | z | z)
        · exact .inl (.inl z)
        · exact .inl (.inr (.inl z))
        · exact .inl (.inr (.inr (.inl z)))
        · rcases List.mem_cons.mp z with z | z
          · exact .inr z
          · exact .inl (.inr (.inr (.inr z)))
      · rintro ((z | z | z | z) | z)
        · exact .inl z
        · exact .inr (.inl z)
        · exact .inr (.inr (.inl z))
        · exact .inr (.inr (.inr (List.mem_cons_of_mem _ z)))
        · rw [z]; exact .inr (.inr (.inr List.mem_cons_self))
    have rest : ∀ {acc : List (Key × D)} {H2 : Hp} {c2 : Int}, Gk M (G.tm ((D0, D.dk acc) :: G.Tm)) (wipe σ vs) H2 (wipeE vs ev) c2 → Sm G.L H1 H2 → rstC (G.O σ ev) G.L H1 H2 ((G.tm ((D0, D.dk acc) :: G.Tm)).O (wipe σ vs) (wipeE vs ev)) := fun {acc H2 c2} g s => by
      refine ⟨⟨fun a o e n => ⟨s a o e fun z => n (.inr (.inl z)), fun z => ?_⟩, fun a => g.tr⟩, s⟩
      rcases (hO2 acc a).mp z with z | z
      · exact n z
      · rw [z, hD] at e; cases e
    refine ⟨fun i m H2 => ∃ acc c2, m = ds.length - i ∧ i ≤ ds.length ∧ Gk M (G.tm ((D0, D.dk acc) :: G.Tm)) (wipe σ vs) H2 (wipeE vs ev) c2 ∧ Sm G.L H1 H2 ∧
      PostF M G σ H1 ev W Q (R.noX ((lcD p t ke e (wipeE vs ev) acc (ds.drop i) c2).bind fun kvs c => .ok (.dk kvs) c)), ⟨ds.length, [], c1, rfl, Nat.zero_le _, ?_, .of_same (same_updN hD), h1⟩, ?_⟩
    · exact (gw.push (.of_same (same_updN hD)) (gw.cell.same (same_updN hD)) hD upd_same (.dk rfl .nil)).1
    rintro i m H2 ⟨acc, c2, rfl, hi, g2, s2, h2⟩
    by_cases hl : i < ds.length
    · right
      have ed : ds[i]? = some ds[i] := List.getElem?_eq_getElem hl
      rw [List.drop_eq_getElem_cons hl] at h2
      unfold lcD at h2
      refine ⟨y.go i H2 _ (rest g2 s2) hl, fun H3 => ∃ acc c3, Gk M (G.tm ((D0, D.dk acc) :: G.Tm)) (wipe σ vs) H3 (wipeE vs ev) c3 ∧ Sm G.L H1 H3 ∧
        PostF M G σ H1 ev W Q (R.noX ((lcD p t ke e (wipeE vs ev) acc (ds.drop (i + 1)) c3).bind fun kvs c => .ok (.dk kvs) c)), fun H' ⟨acc, c3, g3, s3, h3⟩ => ⟨ds.length - (i + 1), by omega, acc, c3, rfl, hl, g3, s3, h3⟩, fun x H3 yy => ?_⟩
      obtain ⟨sm, rx⟩ := y.yld i H2 _ _ x H3 (rest g2 s2) ed yy
      have g3 := g2.same sm
      have s3 : Sm G.L H1 H3 := s2.trans (.of_same sm)
      cases e1 : bindP p ds[i] (wipeE vs ev) with
      | none => rw [e1] at h2; exact h2.elim
      | some ev3 =>
        rw [e1] at h2
        dsimp only at h2
        refine gPt_ok p g3 rx e1 fun σ4 g4 F4 hw => ⟨(hw vs hsl).trans wipe_wipe, ?_⟩
        have hw4 : wipe σ4 vs = wipe σ vs := (hw vs hsl).trans wipe_wipe
        have sub4 : ∀ (acc : List (Key × D)) a, (G.tm ((D0, D.dk acc) :: G.Tm)).O (wipe σ vs) (wipeE vs ev) a → (G.tm ((D0, D.dk acc) :: G.Tm)).O σ4 ev3 a := fun acc a z => by
          rcases z with z | z | ⟨j, d, q1, q2⟩ | z
          · exact .inl z
          · exact .inr (.inl z)
          · have hj : j ∉ vs := fun hj => by
              rw [wipeE_get] at q1
              by_cases q : j < ev.length
              · rw [if_pos ⟨hj, q⟩] at q1; cases q1
              · rw [if_neg (fun z => q z.2), List.getElem?_eq_none (by omega)] at q1; cases q1
            refine .inr (.inr (.inl ⟨j, d, by rw [bindP_out p e1 fun z => hj (hsl j z)]; exact q1, ?_⟩))
            have q3 : (wipe σ4 vs)[j]? = some (some (V.ref a)) := by rw [hw4]; exact q2
            rw [wipe_get, if_neg fun z => hj z.1] at q3
            exact q3
          · exact .inr (.inr (.inr z))
        have sG : (G.tm ((D0, D.dk acc) :: G.Tm)).xo = xo := hx
        refine tG.mk g4 sG ?_
        cases e2 : t ev3 c2 with
        | bad => rw [e2] at h2; exact h2
        | exc z c' => rw [e2] at h2; exact h2.elim
        | ok kb c4 =>
          rw [e2] at h2
          intro b H4 s4 k4 rb
          have rb : b = kb := rb
          subst rb
          have g4' := g4.sm s4 k4
          have s14 : Sm G.L H1 H4 := s3.trans s4
          cases b with
          | false =>
            rw [if_neg Bool.false_ne_true]
            exact ⟨acc, c4, g3.sm s4 k4, s14, h2⟩
          | true =>
            rw [if_pos rfl]
            refine tG.mk g4' sG ?_
            have h2 : PostF M G σ H1 ev W Q (R.noX (((ke ev3 c4).bind fun kd c => (e ev3 c).bind fun y c => match keyD kd with
      | some k => if acc.length < sizeLine then lcD p t ke e (wipeE vs ev) (putD acc k y) (ds.drop (i + 1)) c else .bad
      | none => .bad).bind fun kvs c => .ok (.dk kvs) c)) := h2
            cases e3 : ke ev3 c4 with
            | bad => rw [e3] at h2; exact h2
            | exc z c' => rw [e3] at h2; exact h2.elim
            | ok kd c5 =>
              rw [e3] at h2
              intro kv H5 s5 k5 rk
              have h2 : PostF M G σ H1 ev W Q (R.noX (((e ev3 c5).bind fun y c => match keyD kd with
      | some k => if acc.length < sizeLine then lcD p t ke e (wipeE vs ev) (putD acc k y) (ds.drop (i + 1)) c else .bad
      | none => .bad).bind fun kvs c => .ok (.dk kvs) c)) := h2
              refine tG.mk (g4'.sm s5 k5) sG ?_
              cases e4 : e ev3 c5 with
              | bad => rw [e4] at h2; exact h2
              | exc z c' => rw [e4] at h2; exact h2.elim
              | ok yd c6 =>
                rw [e4] at h2
                intro yv H6 s6 k6 ry
                have g6 := ((g3.sm s4 k4).sm s5 k5).sm s6 k6
                have ry : Rep M H6 ((G.tm ((D0, D.dk acc) :: G.Tm)).O (wipe σ vs) (wipeE vs ev)) G.L yv yd := Rep.fz (fz_sub (sub4 acc)) (fun _ z => z) ry
                obtain ⟨h0, ho, q1, q2⟩ := g6.tm (D0, D.dk acc) List.mem_cons_self
                have h2 : PostF M G σ H1 ev W Q (R.noX (R.bind (match keyD kd with
      | some k => if acc.length < sizeLine then lcD p t ke e (wipeE vs ev) (putD acc k yd) (ds.drop (i + 1)) c6 else .bad
      | none => .bad) fun kvs c => .ok (.dk kvs) c)) := h2
                cases e5 : keyD kd with
                | none => rw [e5] at h2; exact h2.elim
                | some k =>
                  rw [e5] at h2
                  dsimp only at h2
                  by_cases hz : acc.length < sizeLine
                  case neg => rw [if_neg hz] at h2; exact h2.elim
                  rw [if_pos hz] at h2
                  cases q2 with
                  | dk q3 q4 =>
                    rename_i kvs
                    have q4 : RepA M H6 ((G.tm ((D0, D.dk acc) :: G.Tm)).O (wipe σ vs) (wipeE vs ev)) G.L (kvs.map (·.2)) (acc.map (·.2)) := q4
                    have hlen : kvs.length < sizeLine := by
                      have := congrArg List.length q3
                      rw [List.length_map, List.length_map] at this
                      omega
                    obtain ⟨z1, z2⟩ := putK_rep (k := k) q3 q4 ry
                    refine ⟨kvs, k, keyD_rep (.inl rk) e5, q1, hlen, putD acc k yd, c6, g6.updTm (.dk z1 z2), ?_, h2⟩
                    intro a o e n
                    by_cases ha : a = D0
                    · rw [ha, hD] at e; cases e
                    · rw [upd_ne ha]; exact s6 a o (s5 a o (s14 a o e n) n) n
    · left
      have e0 : i = ds.length := by omega
      subst e0
      rw [List.drop_length] at h2
      refine ⟨y.stop H2 _ (rest g2 s2), ?_⟩
      have h2 : PostF M G σ H1 ev W Q (.ok (.dk acc) c2) := h2
      obtain ⟨h0, ho, q1, q2⟩ := g2.tm (D0, D.dk acc) List.mem_cons_self
      refine h2 D0 ho H2 s2 g2.cell hD q1 ?_
      have eO : (G.tm ((D0, D.dk acc) :: G.Tm)).O (wipe σ vs) (wipeE vs ev) = fun b => G.O σ ev b ∨ b = D0 := funext fun b => propext (hO2 acc b)
      rw [← eO]
      exact q2
  · rw [if_neg hof] at h1; exact h1.elim
section
variable {X : Cx} {xo : Xo} {lo : Bool} {tg iter kx vx : Expr} {ifs : List Expr} {scope : Scope} {own : List (Str × Nat)} {vs : List Nat} {fi : EL} {p : Pt} {t : T} {fk f : E} {pos : Pos} {B : Blk}
theorem ScX.dc (S : ScX X B) (own : List (Str × Nat)) (hi : DIc X xo tg iter fi) (ok : blkC B.N B.sc scope own = true) (hv : own.map (·.2) = vs) (hsl : p.slots.all (vs.contains ·) = true) (hg : InB X scope fun X' => DG X' tg p) (ht : InB X scope fun X' => DTs X' xo ifs t) (hk : InB X scope fun X' => DE X' xo kx fk) (he : InB X scope fun X' => DE X' xo vx f)
    (hs : ∀ x, foldedSetIterable iter X.env x = pure x := by intro _; rfl) : DF X xo (.DictComp kx vx [⟨tg, iter, ifs, 0⟩] scope pos) (eDc fi p t fk f vs) := fun W hW => by
  subst hv
  have hg' : ∀ (s : Shared) (H : Hp) (C : Addr) (cl : List (Str × Addr)) (fp : List Addr), PG (X.blk s H scope (compEnvC scope cl C X.env) fp) tg (gPt X.K p) := hg
  have ht' : ∀ (s : Shared) (H : Hp) (C : Addr) (cl : List (Str × Addr)) (fp : List Addr), PTs (X.blk s H scope (compEnvC scope cl C X.env) fp) ifs (tG X.md xo rB t W0) := fun s H C cl fp => ht s H C cl fp W0 takes0
  have hk' : ∀ (s : Shared) (H : Hp) (C : Addr) (cl : List (Str × Addr)) (fp : List Addr), PE (X.blk s H scope (compEnvC scope cl C X.env) fp) kx (tG X.md xo (rD X.md) fk W0) := fun s H C cl fp => hk s H C cl fp W0 takes0
  have he' : ∀ (s : Shared) (H : Hp) (C : Addr) (cl : List (Str × Addr)) (fp : List Addr), PE (X.blk s H scope (compEnvC scope cl C X.env) fp) vx (tG X.md xo (rD X.md) f W0) := fun s H C cl fp => he s H C cl fp W0 takes0
  refine PEimp (pe_dc S.calm S.nd (hi W hW) (S.ok ok) hg' ht' hk' he' hs) fun σ H Q h => ?_
  obtain ⟨G, ev, c, k, hx, h⟩ := h
  exact tG.mk k hx (PostF.bind k h fun ds c1 J H1 s1 k1 g1 y h1 => dc_read hsl hx g1 y h1)
end
end DW

set_option Elab.async false
set_option linter.all false
set_option maxRecDepth 100000
set_option maxHeartbeats 4000000
/-! DWZ: pairs = zip(a, b), walked by a comprehension of the next row. -/
namespace DW
open PySem PySem.Spec L2 PyProof.Rows
def zI (i b : Addr) : HO := .ext fun h => h.IsListIter i b 0
def zP (p i1 i2 : Addr) : HO := .ext fun h => IsPair h p (.ref i1) (.ref i2)
def zQ (p : Addr) : HO := .ext fun h => ∃ x y, IsPair h p x y
def zZ (z TI TO : Addr) : HO := .ext fun h => IsZip h z TI TO .none
def u1 (H : Hp) (m a : Addr) : Hp := upd H m (zI m a)
def u2 (H : Hp) (m a b : Addr) : Hp := upd (u1 H m a) (m + 1) (zI (m + 1) b)
def u3 (H : Hp) (m a b : Addr) : Hp := upd (u2 H m a b) (m + 2) (zP (m + 2) m (m + 1))
def u4 (H : Hp) (m a b : Addr) : Hp := upd (u3 H m a b) (m + 3) (zQ (m + 3))
def u5 (H : Hp) (m a b : Addr) : Hp := upd (u4 H m a b) (m + 4) (zZ (m + 4) (m + 2) (m + 3))
def Fr5 (H : Hp) (m : Addr) : Prop := H m = none ∧ H (m + 1) = none ∧ H (m + 2) = none ∧ H (m + 3) = none ∧ H (m + 4) = none
section
variable {H : Hp} {m a b : Addr}
theorem nk (m : Nat) {j k : Nat} (h : j < k) : m + k ≠ m + j := by omega
theorem nk0 (m : Nat) {k : Nat} (h : 0 < k) : m + k ≠ m := by omega
theorem nout {x m k : Nat} (h : x < m ∨ m + 4 < x) (hk : k ≤ 4) : x ≠ m + k := by omega
theorem nout0 {x m : Nat} (h : x < m ∨ m + 4 < x) : x ≠ m := by omega
theorem u2_n (f : Fr5 H m) : u1 H m a (m + 1) = none := by
  unfold u1; rw [upd_ne (nk0 m (by decide))]; exact f.2.1
theorem u3_n (f : Fr5 H m) : u2 H m a b (m + 2) = none := by
  unfold u2 u1
  rw [upd_ne (nk m (j := 1) (k := 2) (by decide)), upd_ne (nk0 m (k := 2) (by decide))]; exact f.2.2.1
theorem u4_n (f : Fr5 H m) : u3 H m a b (m + 3) = none := by
  unfold u3 u2 u1
  rw [upd_ne (nk m (j := 2) (k := 3) (by decide)), upd_ne (nk m (j := 1) (k := 3) (by decide)), upd_ne (nk0 m (k := 3) (by decide))]; exact f.2.2.2.1
theorem u5_n (f : Fr5 H m) : u4 H m a b (m + 4) = none := by
  unfold u4 u3 u2 u1
  rw [upd_ne (nk m (j := 3) (k := 4) (by decide)), upd_ne (nk m (j := 2) (k := 4) (by decide)), upd_ne (nk m (j := 1) (k := 4) (by decide)), upd_ne (nk0 m (k := 4) (by decide))]; exact f.2.2.2.2
theorem u5_out {x : Addr} (h : x < m ∨ m + 4 < x) : u5 H m a b x = H x := by
  unfold u5 u4 u3 u2 u1
  rw [upd_ne (nout (k := 4) h (by decide)), upd_ne (nout (k := 3) h (by decide)), upd_ne (nout (k := 2) h (by decide)), upd_ne (nout (k := 1) h (by decide)), upd_ne (nout0 h)]
end
theorem ext_ok {P : Program} {w : World} {H : Hp} {h : Heap} {a : Addr} {φ : Heap → Prop} (p : φ h) (o : ∃ u, h.get? a = some u) (st : ∀ h1 h2 : Heap, φ h1 → (∀ u, h1.get? a = some u → h2.get? a = some u) → φ h2) : ObjOk P w H h a (.ext φ) := ⟨p, o, st⟩
def tZipV (K : PySem.W.Frag) (n : Nat) (ta : TA) : TE := fun σ H Q => ta σ H fun vs H1 => ∃ a b xs ys, vs = [.ref a, .ref b] ∧ SqL K H1 a xs ∧ SqL K H1 b ys ∧ ∀ m : Addr, Fr5 H1 m → n ≤ m → a < m → b < m → Q (.ref (m + 4)) (u5 H1 m a b)
theorem pe_zipV {X : Cx} {e e2 : Expr} {ta : TA} {p pos : Pos} (hg : Gl X "zip") (hm : X.mg "zip" = none) (ha : PA X [e, e2] ta)
    (hs : starEach [e, e2] X.env = (false, eval e X.env) :: starEach [e2] X.env := by rfl) (hpl : (backTo pos (starEach [e2] X.env)).any (·.1) = false := by rfl) :
    PE X (.Call (.Name "zip" p) [e, e2] [] pos) (tZipV X.K X.s_0.heap.objs.size ta) := by
  refine ⟨fun pins s σ H Q I h => ?_⟩
  refine Call_ (ld_blt I hg hm PyProof.Rows.boot_zip (PyProof.Rows.callWith_type1 (thn (ha.run pos pins s σ H _ I h) fun us s1 ⟨vs, H1, I1, r1, q1⟩ => ?_) hs hpl))
  obtain ⟨a, b, xs, ys, ex, hqx, hqy, q⟩ := q1
  subst ex
  cases r1 with
  | cons r rr =>
    cases rr with
    | cons r' rr =>
      cases rr
      cases r
      cases r'
      obtain ⟨its, rv, p1, _⟩ := I1.list hqx
      obtain ⟨its2, rv2, p2, _⟩ := I1.list hqy
      have la : a < s1.heap.objs.size := p1.lt
      have lb : b < s1.heap.objs.size := p2.lt
      refine call_zip_2 p1.isList p2.isList fun h' hz hTI hTO h1 h2 hsz hk => ?_
      have fr : Fr5 H1 s1.heap.objs.size := ⟨I1.hok.fresh (Nat.le_refl _), I1.hok.fresh (Nat.le_add_right _ _), I1.hok.fresh (Nat.le_add_right _ _), I1.hok.fresh (Nat.le_add_right _ _), I1.hok.fresh (Nat.le_add_right _ _)⟩
      have k1 := I1.hok.laidN (h' := h') (a := s1.heap.objs.size) (o := zI s1.heap.objs.size a) hk fr.1 (ext_ok h1 (let ⟨o, e, _⟩ := id h1; ⟨o, e⟩) fun _ _ z k => z.at k)
      have k2 := k1.laidN (h' := h') (a := s1.heap.objs.size + 1) (o := zI (s1.heap.objs.size + 1) b) (fun _ _ z => z) (u2_n fr) (ext_ok h2 (let ⟨o, e, _⟩ := id h2; ⟨o, e⟩) fun _ _ z k => z.at k)
      have k3 := k2.laidN (h' := h') (a := s1.heap.objs.size + 2) (o := zP (s1.heap.objs.size + 2) s1.heap.objs.size (s1.heap.objs.size + 1)) (fun _ _ z => z) (u3_n fr) (ext_ok hTI ⟨_, hTI⟩ fun _ _ z k => k _ z)
      have k4 := k3.laidN (h' := h') (a := s1.heap.objs.size + 3) (o := zQ (s1.heap.objs.size + 3)) (fun _ _ z => z) (u4_n fr) (ext_ok ⟨_, _, hTO⟩ ⟨_, hTO⟩ fun _ _ ⟨x, y, z⟩ k => ⟨x, y, k _ z⟩)
      have k5 := k4.laidN (h' := h') (a := s1.heap.objs.size + 4) (o := zZ (s1.heap.objs.size + 4) (s1.heap.objs.size + 2) (s1.heap.objs.size + 3)) (fun _ _ z => z) (u5_n fr) (ext_ok hz ⟨_, hz⟩ fun _ _ z k => k _ z)
      have out : ∀ {x : Addr} {o : Obj}, s1.heap.get? x = some o → u5 H1 s1.heap.objs.size a b x = H1 x := fun e => u5_out (.inl (Heap.lt_size e))
      have outH : ∀ {x : Addr} {o : HO}, H1 x = some o → u5 H1 s1.heap.objs.size a b x = some o := fun {x o} e => by
        rw [u5_out, e]
        refine .inl ?_
        rcases Nat.lt_or_ge x s1.heap.objs.size with z | z
        · exact z
        · rw [I1.hok.fresh z] at e; cases e
      have u : Un X.fs [] H1 (u5 H1 s1.heap.objs.size a b) s1.heap h' :=
        ⟨fun b o e _ _ _ => hk b o e, fun b o e _ _ _ => ⟨o.slots, hk b o e⟩, fun b o e n _ => by rw [out e]; exact n, fun b o e _ => ⟨o, hk b o e⟩, fun b xs e => outH e, fun b o x e => outH e, fun b ps e => ⟨#[], by rw [outH e]; simp⟩⟩
      exact ⟨.ref (s1.heap.objs.size + 4), _, I1.un (t' := s1.toks) u k5, rfl, q s1.heap.objs.size fr I1.sz la lb⟩
def iZipV (K : PySem.W.Frag) (n k : Nat) : TI := fun σ H R => ∃ (m a b : Addr) (H1 : Hp), σ[k]? = some (some (.ref (m + 4))) ∧ H = u5 H1 m a b ∧ Fr5 H1 m ∧ n ≤ m ∧ a < m ∧ b < m ∧ R (Itz K a b) H1
theorem pi_zipV {X : Cx} {k : Nat} {x : Str} {p tpos : Pos} {elts : List Expr} {kk : Nat} (hN : X.N[k]? = some x) (hv : Vis X.env.scope x) (hd : (x == ("__debug__" : Str)) = false) (hcd : (x == ("__classdict__" : Str)) = false) :
    PI X (.Tuple elts kk tpos) (.Name x p) (iZipV X.K X.s_0.heap.objs.size k) := by
  refine ⟨fun pins s σ H R I h => ?_⟩
  obtain ⟨m, a, b, H1, hs, rfl, fr, hn, ha, hb, q⟩ := h
  refine thn ((pe_var (pos := p) (i := k) hN hv hd hcd).run pins s σ _ (fun v H' => v = .ref (m + 4) ∧ H' = u5 H1 m a b) I ⟨.ref (m + 4), hs, rfl, rfl⟩) fun u s1 ⟨v, H', I1, r1, ev, eH⟩ => ?_
  subst ev
  subst eH
  cases r1
  have e4 : u5 H1 m a b (m + 4) = some (zZ (m + 4) (m + 2) (m + 3)) := upd_same
  have hz : IsZip s1.heap (m + 4) (m + 2) (m + 3) .none := (I1.hok _ _ e4).1
  have J4 : L2.Inv X pins σ (u4 H1 m a b) s1 := by
    have := ItX.inv_drop I1 e4
    rwa [show ItX.dropH (u5 H1 m a b) (m + 4) = u4 H1 m a b from ItX.dropH_upd (u5_n fr)] at this
  have e3 : u4 H1 m a b (m + 3) = some (zQ (m + 3)) := upd_same
  have hTO : ∃ x y, IsPair s1.heap (m + 3) x y := (J4.hok _ _ e3).1
  have J3 : L2.Inv X pins σ (u3 H1 m a b) s1 := by
    have := ItX.inv_drop J4 e3
    rwa [show ItX.dropH (u4 H1 m a b) (m + 3) = u3 H1 m a b from ItX.dropH_upd (u4_n fr)] at this
  have e2 : u3 H1 m a b (m + 2) = some (zP (m + 2) m (m + 1)) := upd_same
  have hTI : IsPair s1.heap (m + 2) (.ref m) (.ref (m + 1)) := (J3.hok _ _ e2).1
  have J2 : L2.Inv X pins σ (u2 H1 m a b) s1 := by
    have := ItX.inv_drop J3 e2
    rwa [show ItX.dropH (u3 H1 m a b) (m + 2) = u2 H1 m a b from ItX.dropH_upd (u3_n fr)] at this
  have e1 : u2 H1 m a b (m + 1) = some (zI (m + 1) b) := upd_same
  have h2 : s1.heap.IsListIter (m + 1) b 0 := (J2.hok _ _ e1).1
  have J1 : L2.Inv X pins σ (u1 H1 m a) s1 := by
    have := ItX.inv_drop J2 e1
    rwa [show ItX.dropH (u2 H1 m a b) (m + 1) = u1 H1 m a from ItX.dropH_upd (u2_n fr)] at this
  have e0 : u1 H1 m a m = some (zI m a) := upd_same
  have h1 : s1.heap.IsListIter m a 0 := (J1.hok _ _ e0).1
  have J0 : L2.Inv X pins σ H1 s1 := by
    have := ItX.inv_drop J1 e0
    rwa [show ItX.dropH (u1 H1 m a) m = H1 from ItX.dropH_upd fr.1] at this
  refine wpAny_pyIter_zip hz ?_
  refine ⟨m + 4, [m + 4, m + 2, m + 3, m, m + 1], _, _, H1, rfl, J0, turn_zip (PySem.W.ktu_apart m a b ha hb), ⟨hz, hTI, hTO, h1, h2⟩, fun c hcm => ?_, q⟩
  have e' : c = m + 4 ∨ c = m + 2 ∨ c = m + 3 ∨ c = m ∨ c = m + 1 := by simpa using hcm
  have go : ∀ {H' : Hp} {c : Addr} {o : HO}, L2.Inv X pins σ H' s1 → H' c = some o → H1 c = none → X.s_0.heap.objs.size ≤ c → FpOk X pins H1 c := fun I e n l => by
    obtain ⟨_, b1, b2, b3, b4, b5⟩ := ItX.inv_fp I e l
    exact ⟨n, b1, b2, b3, b4, b5⟩
  rcases e' with z | z | z | z | z <;> subst z
  · exact go I1 e4 fr.2.2.2.2 (Nat.le_trans hn (Nat.le_add_right _ _))
  · exact go J3 e2 fr.2.2.1 (Nat.le_trans hn (Nat.le_add_right _ _))
  · exact go J4 e3 fr.2.2.2.1 (Nat.le_trans hn (Nat.le_add_right _ _))
  · exact go J1 e0 fr.1 hn
  · exact go J2 e1 fr.2.1 (Nat.le_trans hn (Nat.le_add_right _ _))
def itZipL : List D → Option (List D)
  | [.lst xs, .lst ys] => some (zipD xs ys)
  | _ => none
/-- k = zip(..); i[j] = [.. for .. in k] -/
def sZipPut (k i : Nat) (args : EL) (p : Pt) (t : T) (e : E) (vs : List Nat) (j : E) : SF := fun ev c => (args ev c).toS ev fun ds c => match itZipL ds with
  | some zs => if k < ev.length then sPut i j (eLc (fun _ c => .ok zs c) p t e vs) (ev.set k .no) c else .bad
  | none => .bad
section
variable {X : Cx} {xo : Xo} {lo : Bool} {B : Blk} {x tb : Str} {ea eb elt je : Expr} {elts : List Expr} {kk : Nat} {ifs : List Expr} {scope : Scope} {fa : EL} {p : Pt} {t : T} {f fj : E} {vs : List Nat} {rest : List Stmt} {g : SF}
theorem ScX.zipPut (S : ScX X B) (k i : Nat) {px pz pc pos1 tpos pn lpos ptb sp pos2 : Pos} (hxt : B.tgt k x = true) (hxv : B.var k x = true) (hm : X.mg "zip" = none) (hgl : B.gl "zip" = true) (ha : DBA X xo [ea, eb] fa)
    (own : List (Str × Nat)) (ok : blkC B.N B.sc scope own = true) (hv : own.map (·.2) = vs) (hsl : p.slots.all (vs.contains ·) = true) (hg : InB X scope fun X' => DG X' (.Tuple elts kk tpos) p) (ht : InB X scope fun X' => DTs X' xo ifs t) (he : InB X scope fun X' => DE X' xo elt f)
    (hi : B.var i tb = true) (hj : DB X xo je fj) (hr : DSs X xo lo rest g)
    (hs0 : swapsWith (.Call (.Name "zip" pz) [ea, eb] [] pc) (some (.Name x px)) pos1.line X.env = pure false := by rfl)
    (hst : starEach [ea, eb] X.env = (false, eval ea X.env) :: starEach [eb] X.env := by rfl) (hpl : (backTo pc (starEach [eb] X.env)).any (·.1) = false := by rfl)
    (hsi : ∀ y, foldedSetIterable (.Name x pn) X.env y = pure y := by intro _; rfl)
    (hs : swapsWithSole [.Subscript (.Name tb ptb) je sp] (.ListComp elt [⟨.Tuple elts kk tpos, .Name x pn, ifs, 0⟩] scope lpos) pos2.line X.env = pure false := by rfl) (hw : swappedStores [.Subscript (.Name tb ptb) je sp] (.ListComp elt [⟨.Tuple elts kk tpos, .Name x pn, ifs, 0⟩] scope lpos) X.env = pure none := by rfl)
    (h1 : (assignEach [.Subscript (.Name tb ptb) je sp] X.env).map (·.2) = [assign (.Subscript (.Name tb ptb) je sp) X.env] := by rfl)
    (hasg : ∀ v, assign (.Subscript (.Name tb ptb) je sp) X.env v = (do
      let ov ← holding [v] (eval (.Name tb ptb) X.env)
      let iv ← holding [v, ov] (eval je X.env)
      standAt sp
      holding [v, ov, iv] (setItem ov iv v)
      release [v, ov, iv] []) := by intro _; rfl) :
    DSs X xo lo (.Assign [.Name x px] (.Call (.Name "zip" pz) [ea, eb] [] pc) pos1 :: .Assign [.Subscript (.Name tb ptb) je sp] (.ListComp elt [⟨.Tuple elts kk tpos, .Name x pn, ifs, 0⟩] scope lpos) pos2 :: rest) (sSeq (sZipPut k i fa p t f vs fj) g) := fun W hW => by
  subst hv
  have hg' : ∀ (s : Shared) (H : Hp) (C : Addr) (cl : List (Str × Addr)) (fp : List Addr), PG (X.blk s H scope (compEnvC scope cl C X.env) fp) (.Tuple elts kk tpos) (gPt X.K p) := hg
  have ht' : ∀ (s : Shared) (H : Hp) (C : Addr) (cl : List (Str × Addr)) (fp : List Addr), PTs (X.blk s H scope (compEnvC scope cl C X.env) fp) ifs (tG X.md xo rB t W0) := fun s H C cl fp => ht s H C cl fp W0 takes0
  have he' : ∀ (s : Shared) (H : Hp) (C : Addr) (cl : List (Str × Addr)) (fp : List Addr), PE (X.blk s H scope (compEnvC scope cl C X.env) fp) elt (tG X.md xo (rD X.md) f W0) := fun s H C cl fp => he s H C cl fp W0 takes0
  obtain ⟨hN, hLoc, hfn⟩ := S.tgtN hxt
  obtain ⟨hNv, hvis, hd⟩ := S.visN hxv
  unfold cDbg at hd
  simp only [Bool.and_eq_true, Bool.not_eq_true'] at hd
  refine PSsimp (pss_cons (ps_set S.nd hN hLoc (pe_zipV (S.gl hgl).1 hm (ha W hW) hst hpl) hs0 hfn) (pss_cons (ps_asg (pe_lc S.calm S.nd (pi_zipV hNv hvis hd.1.1 hd.1.2) (S.ok ok) hg' ht' he' hsi) (pg_sub (pe_own S hi) (hj W hW) set_list hasg) hs hw h1) (hr W hW))) fun D' σ H h => ?_
  obtain ⟨G, ev, c, k0, hx, h⟩ := h
  have h : PostS X.md lo G σ H ev W { D' with nx := tS X.md xo lo g W D' } (sZipPut k i fa p t f (own.map (·.2)) fj ev c) := by
    unfold sSeq at h
    cases e : sZipPut k i fa p t f (own.map (·.2)) fj ev c with
    | nx ev' c' => rw [e] at h; exact fun σ' H' g' z => tS.mk g' hx (PostS.from h z)
    | ret d c' => rw [e] at h; exact h
    | brk ev' c' => rw [e] at h; exact h
    | cnt ev' c' => rw [e] at h; exact h
    | exc x ev' c' => rw [e] at h; exact h
    | bad => rw [e] at h; exact h
  unfold sZipPut at h
  refine tG.mk k0 hx (PostS.bind k0 h fun ds c1 us H1 s1 k1 g1 r1 h2 => ?_)
  cases ez : itZipL ds with
  | none => rw [ez] at h2; exact h2.elim
  | some zs =>
    rw [ez] at h2
    dsimp only at h2
    unfold itZipL at ez
    split at ez <;> cases ez
    obtain ⟨v, w, rfl, r, r'⟩ := repA2 (show RepBA X.md H1 (G.O σ ev) G.L us [.lst _, .lst _] from r1)
    obtain ⟨a, vs1, rfl, q1, q2⟩ := r.lstC
    obtain ⟨b, ws1, rfl, z1, z2⟩ := r'.lstC
    refine ⟨a, b, vs1, ws1, rfl, .of q1, .of z1, fun m fr hn hla hlb => ?_⟩
    obtain ⟨g2, F2⟩ := g1.setNo (i := k) (v := some (.ref (m + 4)))
    have hO : ∀ y, G.O (σ.set k (some (.ref (m + 4)))) (ev.set k .no) y → G.O σ ev y := fun y hy => by
      rcases hy with z | z | ⟨j, d, z1, z2⟩ | z
      · exact .inl z
      · exact .inr (.inl z)
      · refine .inr (.inr (.inl ⟨j, d, ?_, ?_⟩))
        · by_cases e : k = j
          · subst e
            by_cases hl : k < ev.length
            · rw [List.getElem?_set_self hl] at z1; cases z1
            · rw [List.getElem?_eq_none (by rw [List.length_set]; omega)] at z1; cases z1
          · rw [List.getElem?_set_ne e] at z1; exact z1
        · by_cases e : k = j
          · subst e
            by_cases hl : k < ev.length
            · rw [List.getElem?_set_self hl] at z1; cases z1
            · rw [List.getElem?_eq_none (by rw [List.length_set]; omega)] at z1; cases z1
          · rw [List.getElem?_set_ne e] at z2; exact z2
      · exact .inr (.inr (.inr z))
    by_cases hk : k < ev.length
    case neg => rw [if_neg hk] at h2; exact h2.elim
    rw [if_pos hk] at h2
    have hlen : k < σ.length := by rw [← g1.len]; exact hk
    refine ⟨m, a, b, H1, by rw [List.getElem?_set_self hlen], rfl, fr, hn, hla, hlb, ?_⟩
    have h3 := PostS.from h2 F2
    unfold sPut at h3
    have hP : Post X.md G (σ.set k (some (.ref (m + 4)))) H1 (ev.set k .no) W (rD X.md (G.O (σ.set k (some (.ref (m + 4)))) (ev.set k .no)) G.L) (fun v H2 => gSub (tVar i) (tG X.md xo (rBo X.md) fj W) rSetL v (σ.set k (some (.ref (m + 4)))) H2 (tS X.md xo lo g W D')) (eLc (fun _ c => .ok (zipD _ _) c) p t f (own.map (·.2)) (ev.set k .no) c1) := PostS.bind g2 h3 fun d c2 v H2 s2 k2 g3 r2 h4 => by
      split at h4
      · rename_i xs e1
        obtain ⟨a, vs, q1, q2, q3⟩ := g3.lst e1
        exact ⟨_, q1, tG.mk g3 hx (PostS.bind g3 h4 fun kd c2 kv H2 s2 k2 g4 r4 h5 => put_post g4 e1 q1 r4 (Rep.sm s2 r2) h5)⟩
      · exact h4.elim
    refine lc_read hsl hx g2 (yl_zipL fun H2 O2 r => ?_) (Post.toF g2 hP)
    have r' : rstC (G.O σ ev) G.L H1 H2 O2 := ⟨⟨fun x o e n => r.1.1 x o e fun z => n (hO x z), r.1.2⟩, r.2⟩
    exact ⟨r.1.2, ⟨vs1, q2 _ _ r'⟩, ws1, z2 _ _ r'⟩
end
end DW

set_option Elab.async false
set_option linter.all false
set_option maxRecDepth 100000
set_option maxHeartbeats 4000000
/-! DWT: dicts: displays, items, get; tables of the module. -/
namespace DW
open PySem PySem.Spec L2
/-! ### displays -/
def pairsD : List (E × E) → Env → Int → R (List (D × D))
  | [], _, c => .ok [] c
  | (k, v) :: r, ev, c => (k ev c).bind fun x c => (v ev c).bind fun y c => (pairsD r ev c).bind fun ps c => .ok ((x, y) :: ps) c
def keysD : List (D × D) → Option (List (Key × D))
  | [] => some []
  | (x, y) :: r => (keyD x).bind fun k => (keysD r).map fun l => (k, y) :: l
def mergeD (ds more : List (Key × D)) : List (Key × D) := more.foldl (fun acc kv => putD acc kv.1 kv.2) ds
def eDisp (ps : List (E × E)) : E := fun ev c => R.noX ((pairsD ps ev c).bind fun xs c => match keysD xs with
  | some kvs => if kvs.length ≤ 15 then .ok (.dk (mergeD [] kvs)) c else .bad
  | none => .bad)
abbrev trsOf (M : Md) (xo : Xo) (ps : List (E × E)) : List (TE × TE) := ps.map fun p => (tG M xo (rD M) p.1 W0, tG M xo (rD M) p.2 W0)
inductive DPs (X : Cx) (xo : Xo) : List (Option Expr) → List Expr → List (E × E) → Prop
  | nil : DPs X xo [] [] []
  | cons {k v : Expr} {fk fv : E} {ks : List (Option Expr)} {vs : List Expr} {ps : List (E × E)} : DE X xo k fk → DE X xo v fv → DPs X xo ks vs ps → DPs X xo (some k :: ks) (v :: vs) ((fk, fv) :: ps)
section
variable {X : Cx} {xo : Xo} {M : Md} {G : Gd} {σ : L2.St} {ev : Env} {H : Hp} {O : Addr → Prop} {L : Option Addr}
theorem DPs.pps {ks : List (Option Expr)} {vs : List Expr} {ps : List (E × E)} (h : DPs X xo ks vs ps) (pos : Pos) : PPs X pos ks vs (trsOf X.md xo ps) := by
  induction h with
  | nil => exact pps_nil
  | cons hk hv _ ih => exact pps_cons (hk W0 takes0) (hv W0 takes0) ih
abbrev RepP (M : Md) (H : Hp) (O : Addr → Prop) (L : Option Addr) (vs : List (V × V)) (xs : List (D × D)) : Prop := RepA M H O L (vs.map (·.1)) (xs.map (·.1)) ∧ RepA M H O L (vs.map (·.2)) (xs.map (·.2))
theorem pairs_read (hx : G.xo = xo) : ∀ (ps : List (E × E)) {H : Hp} {c : Int} (g : Gk M G σ H ev c) {xs : List (D × D)} {c' : Int} (e : pairsD ps ev c = .ok xs c') {Q : List (V × V) → Hp → Prop},
    (∀ H' vs, Sm G.L H H' → CellOk H' G.L c' → RepP M H' (G.O σ ev) G.L vs xs → Q vs H') → tPairs (trsOf M xo ps) σ H Q
  | [], H, c, g, xs, c', e, Q, h => by
    cases e
    exact h H [] .refl g.cell ⟨.nil, .nil⟩
  | (fk, fv) :: r, H, c, g, xs, c', e, Q, h => by
    unfold pairsD at e
    show tG M xo (rD M) fk W0 σ H fun xv H1 => tG M xo (rD M) fv W0 σ H1 fun yv H2 => tPairs (trsOf M xo r) σ H2 fun ps H3 => Q ((xv, yv) :: ps) H3
    refine tG.mk g hx ?_
    cases e1 : fk ev c with
    | bad => rw [e1] at e; cases e
    | exc _ _ => rw [e1] at e; cases e
    | ok x c1 =>
      rw [e1] at e
      intro xv H1 s1 k1 r1
      refine tG.mk (g.sm s1 k1) hx ?_
      have e : ((fv ev c1).bind fun y c => (pairsD r ev c).bind fun ps c => .ok ((x, y) :: ps) c) = .ok xs c' := e
      cases e2 : fv ev c1 with
      | bad => rw [e2] at e; cases e
      | exc _ _ => rw [e2] at e; cases e
      | ok y c2 =>
        rw [e2] at e
        intro yv H2 s2 k2 r2
        have e : ((pairsD r ev c2).bind fun ps c => .ok ((x, y) :: ps) c) = .ok xs c' := e
        cases e3 : pairsD r ev c2 with
        | bad => rw [e3] at e; cases e
        | exc _ _ => rw [e3] at e; cases e
        | ok zs c3 =>
          rw [e3] at e
          cases e
          exact pairs_read hx r ((g.sm s1 k1).sm s2 k2) e3 fun H' vs s3 k3 rp => h H' ((xv, yv) :: vs) (s1.trans (s2.trans s3)) k3 ⟨.cons (Rep.sm (s2.trans s3) r1) rp.1, .cons (Rep.sm s3 r2) rp.2⟩
theorem keys_rep : ∀ {vs : List (V × V)} {xs : List (D × D)} {kds : List (Key × D)}, RepP M H O L vs xs → keysD xs = some kds → ∃ kvs : List (Key × V), vs = kvs.map (fun kv => (kV kv.1, kv.2)) ∧ kvs.map (·.1) = kds.map (·.1) ∧ RepA M H O L (kvs.map (·.2)) (kds.map (·.2))
  | [], [], _, _, e => by cases e; exact ⟨[], rfl, rfl, .nil⟩
  | [], _ :: _, _, r, _ => by cases r.1
  | _ :: _, [], _, r, _ => by cases r.1
  | (v, w) :: vs, (x, y) :: xs, kds, ⟨r1, r2⟩, e => by
    unfold keysD at e
    cases r1 with
    | cons r1 rr1 =>
      cases r2 with
      | cons r2 rr2 =>
        cases e1 : keyD x with
        | none => rw [e1] at e; cases e
        | some k =>
          rw [e1] at e
          have e : (keysD xs).map (fun l => (k, y) :: l) = some kds := e
          cases e2 : keysD xs with
          | none => rw [e2] at e; cases e
          | some l =>
            rw [e2] at e
            cases e
            obtain ⟨kvs, h1, h2, h3⟩ := keys_rep ⟨rr1, rr2⟩ e2
            have hv : v = kV k := keyD_rep (.inl r1) e1
            refine ⟨(k, w) :: kvs, by rw [h1, hv]; rfl, ?_, ?_⟩
            · rw [List.map_cons, List.map_cons, h2]
            · exact .cons r2 h3
theorem merge_rep : ∀ {more : List (Key × V)} {mds : List (Key × D)} {kvs : List (Key × V)} {ds : List (Key × D)}, more.map (·.1) = mds.map (·.1) → RepA M H O L (more.map (·.2)) (mds.map (·.2)) → kvs.map (·.1) = ds.map (·.1) → RepA M H O L (kvs.map (·.2)) (ds.map (·.2)) →
    (mergeK kvs more).map (·.1) = (mergeD ds mds).map (·.1) ∧ RepA M H O L ((mergeK kvs more).map (·.2)) ((mergeD ds mds).map (·.2))
  | [], [], _, _, _, _, e, r => ⟨e, r⟩
  | [], _ :: _, _, _, h, _, _, _ => by cases h
  | _ :: _, [], _, _, h, _, _, _ => by cases h
  | (k, v) :: more, (k', d) :: mds, kvs, ds, h, rm, e, r => by
    rw [List.map_cons, List.map_cons] at h
    have h1 : k = k' := (List.cons.inj h).1
    subst h1
    cases rm with
    | cons r1 r2 =>
      obtain ⟨z1, z2⟩ := putK_rep (k := k) e r r1
      exact merge_rep (more := more) (mds := mds) (kvs := putK kvs k v) (ds := putD ds k d) (List.cons.inj h).2 r2 z1 z2
theorem DF.disp {ks : List (Option Expr)} {vs : List Expr} {ps : List (E × E)} {pos : Pos} (h : DPs X xo ks vs ps) (hall : ks.all (·.isSome) = true) (hl : ks.length = vs.length) (h0 : ks ≠ []) (h15 : ks.length ≤ 15) : DF X xo (.Dict ks vs pos) (eDisp ps) := fun W hW => by
  refine PEimp (pe_disp (h.pps pos) hall hl h0 h15) fun σ H Q h => ?_
  obtain ⟨G, ev, c, k, hx, h⟩ := h
  intro p hp
  unfold eDisp at h
  cases e : pairsD ps ev c with
  | bad => rw [e] at h; exact h.elim
  | exc _ _ => rw [e] at h; exact h.elim
  | ok xs c' =>
    rw [e] at h
    have h : PostF X.md G σ H ev W Q (R.noX (match keysD xs with
      | some kvs => if kvs.length ≤ 15 then .ok (.dk (mergeD [] kvs)) c' else .bad
      | none => .bad)) := h
    cases e2 : keysD xs with
    | none => rw [e2] at h; exact h.elim
    | some kds =>
      rw [e2] at h
      dsimp only at h
      by_cases hz : kds.length ≤ 15
      case neg => rw [if_neg hz] at h; exact h.elim
      rw [if_pos hz] at h
      have g2 := (k.push (.of_same (same_updN hp)) (k.cell.same (same_updN hp)) hp (H' := upd H p (.dK [])) (ho := .dK []) upd_same (.dk rfl .nil) (d := .dk [])).1
      refine pairs_read (G := G.tm ((p, .dk []) :: G.Tm)) hx ps g2 e fun H2 pvs s2 k2 rp => ?_
      have g3 := g2.sm s2 k2
      obtain ⟨h0', ho, q1, q2⟩ := g3.tm (p, .dk []) List.mem_cons_self
      obtain ⟨kvs, ek, er1, er2⟩ := keys_rep rp e2
      cases q2 with
      | dk q3 q4 =>
        rename_i kv0
        have z0 : kv0 = [] := by
          have := congrArg List.length q3
          rw [List.length_map, List.length_map] at this
          exact List.eq_nil_of_length_eq_zero this
        subst z0
        have hlen : kvs.length ≤ 15 := by
          have := congrArg List.length er1
          rw [List.length_map, List.length_map] at this
          omega
        refine ⟨q1, kvs, ek, hlen, ?_⟩
        obtain ⟨z1, z2⟩ := merge_rep (kvs := []) (ds := []) er1 er2 rfl .nil
        have g4 := g3.updTm (d2 := .dk (mergeD [] kds)) (ho := .dK (mergeK [] kvs)) (.dk z1 z2)
        obtain ⟨_, ho, p1, p2⟩ := g4.tm (p, .dk (mergeD [] kds)) List.mem_cons_self
        have sm : Sm G.L H (upd H2 p (.dK (mergeK [] kvs))) := fun a o e n => by
          by_cases ha : a = p
          · rw [ha, hp] at e; cases e
          · rw [upd_ne ha]
            exact s2 a o (by rw [upd_ne ha]; exact e) n
        refine h p ho _ sm g4.cell hp p1 ?_
        have eO : (G.tm ((p, .dk (mergeD [] kds)) :: G.Tm)).O σ ev = fun b => G.O σ ev b ∨ b = p := funext fun b => propext ⟨fun z => by
          rcases z with z | z | z | z
          · exact .inl (.inl z)
          · exact .inl (.inr (.inl z))
          · exact .inl (.inr (.inr (.inl z)))
          · rcases List.mem_cons.mp z with z | z
            · exact .inr z
            · exact .inl (.inr (.inr (.inr z))), fun z => by
          rcases z with (z | z | z | z) | z
          · exact .inl z
          · exact .inr (.inl z)
          · exact .inr (.inr (.inl z))
          · exact .inr (.inr (.inr (List.mem_cons_of_mem _ z)))
          · rw [z]; exact .inr (.inr (.inr List.mem_cons_self))⟩
        rw [← eO]
        exact p2
end
/-! ### items, get -/
def valD : List (Key × D) → Key → Option D
  | [], _ => none
  | p :: r, k => if p.1 = k then some p.2 else valD r k
theorem valD_rep {M : Md} {H : Hp} {O : Addr → Prop} {L : Option Addr} : ∀ {kvs : List (Key × V)} {ds : List (Key × D)} {k : Key}, kvs.map (·.1) = ds.map (·.1) → RepA M H O L (kvs.map (·.2)) (ds.map (·.2)) →
    match valD ds k with
    | some d => ∃ v, valV kvs k = some v ∧ Rep M H O L v d
    | none => valV kvs k = none
  | [], [], k, _, _ => rfl
  | [], _ :: _, _, e, _ => by cases e
  | _ :: _, [], _, e, _ => by cases e
  | p :: kvs, q :: ds, k, e, r => by
    rw [List.map_cons, List.map_cons] at e
    have h1 : p.1 = q.1 := (List.cons.inj e).1
    cases r with
    | cons r1 r2 =>
      by_cases hk : q.1 = k
      · have z : valD (q :: ds) k = some q.2 := by unfold valD; rw [if_pos hk]
        rw [z]
        exact ⟨p.2, valV_pos (h1.trans hk), r1⟩
      · have z : valD (q :: ds) k = valD ds k := by rw [valD, if_neg hk]
        rw [z, valV_neg fun z => hk (h1.symm.trans z)]
        exact valD_rep (List.cons.inj e).2 r2
def eDGet (fd fk : E) : E := fun ev c => (fd ev c).bind fun d c => (fk ev c).bind fun x c => match d, keyD x with
  | .dk ds, some k => R.of (valD ds k) c
  | _, _ => .bad
/-- d.get(k, x) -/
def eDGet2 (fd fk fx : E) : E := fun ev c => (fd ev c).bind fun d c => match d with
  | .dk ds => (fk ev c).bind fun x c => (fx ev c).bind fun y c => match keyD x with
    | some k => .ok ((valD ds k).getD y) c
    | none => .bad
  | _ => .bad
/-- d.get(k) -/
def eDGet1 (fd fk : E) : E := fun ev c => (fd ev c).bind fun d c => match d with
  | .dk ds => (fk ev c).bind fun x c => match keyD x with
    | some k => .ok ((valD ds k).getD .non) c
    | none => .bad
  | _ => .bad
section
variable {X : Cx} {xo : Xo} {o e f : Expr} {fd fk fx : E} {pos apos cpos : Pos}
theorem DE.dget (hu : X.A.units + 65 < cLine) (hd : DB X xo o fd) (hk : DE X xo e fk) (hs : NoSl e := by intro _ _; rfl) : DE X xo (.Subscript o e pos) (eDGet fd fk) := fun W hW => by
  refine PEimp (pe_dget (by omega) (hd W hW) (hk W hW) hs) fun σ H Q h => ?_
  obtain ⟨G, ev, c, k, hx, h⟩ := h
  refine tG.mk k hx (Post.bind h fun d c1 x H1 s1 k1 r1 h1 => ?_)
  refine tG.mk (k.sm s1 k1) hx (Post.bind h1 fun y c2 yv H2 s2 k2 r2 h2 => ?_)
  have r1 := RepB.sm s2 r1
  cases d with
  | dk ds =>
    cases e1 : keyD y with
    | none => rw [e1] at h2; exact h2.elim
    | some key =>
      rw [e1] at h2
      have h2 : Post X.md G σ H2 ev W (rD X.md (G.O σ ev) G.L) Q (R.of (valD ds key) c2) := h2
      obtain ⟨a, kvs, rfl, q1, q2, q3⟩ := r1.dk_eq
      have hv := keyD_rep (.inl r2) e1
      subst hv
      have z := valD_rep (k := key) q2 q3
      cases e2 : valD ds key with
      | none => rw [e2] at h2; exact h2.elim
      | some d =>
        rw [e2] at h2 z
        obtain ⟨v, z1, z2⟩ := z
        exact ⟨a, v, rfl, by have := DGet.k (k := key) q1; rw [z1] at this; exact this, h2 v H2 .refl k2 z2⟩
  | _ => exact h2.elim
theorem DE.dget2 (hu : X.A.units + 65 < cLine) (hd : DB X xo o fd) (hk : DE X xo e fk) (hf : DE X xo f fx) (m : M2 X o "get" apos e f cpos) : DE X xo (.Call (.Attribute o "get" apos) [e, f] [] cpos) (eDGet2 fd fk fx) := fun W hW => by
  refine PEimp (pe_dget2 (by omega) (hd W hW) (hk W hW) (hf W hW) m) fun σ H Q h => ?_
  obtain ⟨G, ev, c, k, hx, h⟩ := h
  refine tG.mk k hx (Post.bind h fun d c1 x H1 s1 k1 r1 h1 => ?_)
  cases d with
  | dk ds =>
    obtain ⟨a, kvs0, rfl, q0, _⟩ := r1.dk_eq
    refine ⟨a, rfl, .inl ⟨kvs0, .inl q0⟩, ?_⟩
    refine tG.mk (k.sm s1 k1) hx (Post.bind h1 fun y c2 yv H2 s2 k2 r2 h2 => ?_)
    refine tG.mk ((k.sm s1 k1).sm s2 k2) hx (Post.bind h2 fun dd c3 zv H3 s3 k3 r3 h3 => ?_)
    have r1 := RepB.sm s3 (RepB.sm s2 r1)
    have r2 := Rep.sm s3 r2
    cases e1 : keyD y with
    | none => rw [e1] at h3; exact h3.elim
    | some key =>
      rw [e1] at h3
      dsimp only at h3
      obtain ⟨a', kvs, ea, q1, q2, q3⟩ := r1.dk_eq
      cases ea
      have hv := keyD_rep (.inl r2) e1
      subst hv
      have z := valD_rep (k := key) q2 q3
      refine ⟨_, DGet.k (k := key) q1, ?_⟩
      cases e2 : valD ds key with
      | none =>
        rw [e2] at h3 z
        have z : valV kvs key = none := z
        rw [z]
        exact h3 zv H3 .refl k3 r3
      | some d =>
        rw [e2] at h3 z
        obtain ⟨v, z1, z2⟩ := z
        rw [z1]
        exact h3 v H3 .refl k3 z2
  | _ => exact h1.elim
theorem DE.dget1 (hu : X.A.units + 65 < cLine) (hd : DB X xo o fd) (hk : DE X xo e fk) (m : M1 X o "get" apos e cpos) : DE X xo (.Call (.Attribute o "get" apos) [e] [] cpos) (eDGet1 fd fk) := fun W hW => by
  refine PEimp (pe_dget1 (by omega) (hd W hW) (hk W hW) m) fun σ H Q h => ?_
  obtain ⟨G, ev, c, k, hx, h⟩ := h
  refine tG.mk k hx (Post.bind h fun d c1 x H1 s1 k1 r1 h1 => ?_)
  cases d with
  | dk ds =>
    obtain ⟨a, kvs0, rfl, q0, _⟩ := r1.dk_eq
    refine ⟨a, rfl, .inl ⟨kvs0, .inl q0⟩, ?_⟩
    refine tG.mk (k.sm s1 k1) hx (Post.bind h1 fun y c2 yv H2 s2 k2 r2 h2 => ?_)
    have r1 := RepB.sm s2 r1
    cases e1 : keyD y with
    | none => rw [e1] at h2; exact h2.elim
    | some key =>
      rw [e1] at h2
      dsimp only at h2
      obtain ⟨a', kvs, ea, q1, q2, q3⟩ := r1.dk_eq
      cases ea
      have hv := keyD_rep (.inl r2) e1
      subst hv
      have z := valD_rep (k := key) q2 q3
      refine ⟨_, DGet.k (k := key) q1, ?_⟩
      cases e2 : valD ds key with
      | none =>
        rw [e2] at h2 z
        have z : valV kvs key = none := z
        rw [z]
        exact h2 .non H2 .refl k2 .non
      | some d =>
        rw [e2] at h2 z
        obtain ⟨v, z1, z2⟩ := z
        rw [z1]
        exact h2 v H2 .refl k2 z2
  | _ => exact h1.elim
end
/-! ### tables of the module: what they hold at some texts -/
abbrev Tab := List (Str × Option D)
structure TabD (M : Md) (w : World) (x : Str) (t : Tab) : Prop where
  ex : ∃ (a : Addr) (es : Array DictEntry) (n : Nat), M.mg x = some (.ref a) ∧ KDict M.K w a es n ∧ ∀ q ∈ t, match q.2 with
    | some d => ∃ u v, PySem.W.nsIn M.K a q.1 = some (some u) ∧ RelV v u ∧ ∀ H O L, Rep M H O L v d
    | none => PySem.W.nsIn M.K a q.1 = some none
theorem lookup_mem {α : Type} : ∀ {t : List (Str × α)} {z : Str} {o : α}, t.lookup z = some o → (z, o) ∈ t
  | [], _, _, h => by simp [List.lookup] at h
  | (k, v) :: t, z, o, h => by
    rw [List.lookup_cons] at h
    cases q : z == k with
    | true =>
      rw [q] at h
      cases h
      rw [eq_of_beq q]
      exact List.mem_cons_self
    | false =>
      rw [q] at h
      exact List.mem_cons_of_mem _ (lookup_mem h)
def eTab (t : Tab) (f : E) : E := fun ev c => (f ev c).bind fun d c => match d with
  | .str z => (match t.lookup z with
    | some (some d) => .ok d c
    | _ => .bad)
  | _ => .bad
def eTabIn (t : Tab) (f : E) : E := fun ev c => (f ev c).bind fun d c => match d with
  | .str z => (match t.lookup z with
    | some o => .ok (.bl o.isSome) c
    | none => .bad)
  | _ => .bad
def eTabNin (t : Tab) (f : E) : E := fun ev c => (f ev c).bind fun d c => match d with
  | .str z => (match t.lookup z with
    | some o => .ok (.bl (!o.isSome)) c
    | none => .bad)
  | _ => .bad
def eTabGet2 (t : Tab) (f g : E) : E := fun ev c => (f ev c).bind fun d c => match d with
  | .str z => (g ev c).bind fun y c => (match t.lookup z with
    | some o => .ok (o.getD y) c
    | none => .bad)
  | _ => .bad
section
variable {X : Cx} {xo : Xo} {B : Blk} {x : Str} {t : Tab} {e f : Expr} {fk fx : E} {p pos apos cpos : Pos}
theorem ScX.tab (S : ScX X B) (T : TabD X.md X.w x t) (h : B.gl x = true) (hk : DE X xo e fk) (hs : PlainIx e := by intro _ _; rfl) : DE X xo (.Subscript (.Name x p) e pos) (eTab t fk) := fun W hW => by
  obtain ⟨hg, hd⟩ := S.gl h
  unfold cDbg at hd
  simp only [Bool.and_eq_true, Bool.not_eq_true'] at hd
  obtain ⟨a, es, n, hm, kd, ht⟩ := T.ex
  refine PEimp (pe_ix ix_kdict (pe_glob (v := .ref a) hg hm rfl hd.1.1) (hk W hW) hs) fun σ H Q h => ?_
  obtain ⟨G, ev, c, k, hx, h⟩ := h
  refine tG.mk k hx (Post.bind h fun d c1 y H1 s1 k1 r1 h1 => ?_)
  cases d with
  | str z =>
    have h1 : Post X.md G σ H1 ev W (rD X.md (G.O σ ev) G.L) Q (match t.lookup z with
      | some (some d) => .ok d c1
      | _ => .bad) := h1
    cases e1 : t.lookup z with
    | none => rw [e1] at h1; exact h1.elim
    | some o =>
      cases o with
      | none => rw [e1] at h1; exact h1.elim
      | some d =>
        rw [e1] at h1
        obtain ⟨u, v, z1, z2, z3⟩ := ht _ (lookup_mem e1)
        obtain rfl := Rep.str_eq r1
        exact ⟨a, z, v, rfl, rfl, ⟨es, n, u, kd.at_, kd.lit, z1, z2⟩, h1 v H1 .refl k1 (z3 _ _ _)⟩
  | _ => exact h1.elim
theorem ScX.tabIn (S : ScX X B) (T : TabD X.md X.w x t) (h : B.gl x = true) (hk : DE X xo e fk) (hm : behindInMarks .In (.Name x p) = false := by first | exact nobehind _ (by decide) (by decide) | rfl) : DE X xo (.Compare e [.In] [.Name x p] pos) (eTabIn t fk) := fun W hW => by
  obtain ⟨hg, hd⟩ := S.gl h
  unfold cDbg at hd
  simp only [Bool.and_eq_true, Bool.not_eq_true'] at hd
  obtain ⟨a, es, n, hm', kd, ht⟩ := T.ex
  refine PEimp (pe_cmpR (op_in_kd kd) (hk W hW) (pe_glob (v := .ref a) hg hm' rfl hd.1.1) hm) fun σ H Q h => ?_
  obtain ⟨G, ev, c, k, hx, h⟩ := h
  refine tG.mk k hx (Post.bind h fun d c1 y H1 s1 k1 r1 h1 => ?_)
  cases d with
  | str z =>
    have h1 : Post X.md G σ H1 ev W (rD X.md (G.O σ ev) G.L) Q (match t.lookup z with
      | some o => .ok (.bl o.isSome) c1
      | none => .bad) := h1
    cases e1 : t.lookup z with
    | none => rw [e1] at h1; exact h1.elim
    | some o =>
      rw [e1] at h1
      obtain rfl := Rep.str_eq r1
      have hz := ht _ (lookup_mem e1)
      cases o with
      | none => exact ⟨z, none, rfl, rfl, hz, h1 (.bl false) H1 .refl k1 (.bl _)⟩
      | some d =>
        obtain ⟨u, v, z1, z2, z3⟩ := hz
        exact ⟨_, some u, rfl, rfl, z1, h1 (.bl true) H1 .refl k1 (.bl _)⟩
  | _ => exact h1.elim
theorem ScX.tabNin (S : ScX X B) (T : TabD X.md X.w x t) (h : B.gl x = true) (hk : DE X xo e fk) (hm : behindInMarks .NotIn (.Name x p) = false := by first | exact nobehind _ (by decide) (by decide) | rfl) : DE X xo (.Compare e [.NotIn] [.Name x p] pos) (eTabNin t fk) := fun W hW => by
  obtain ⟨hg, hd⟩ := S.gl h
  unfold cDbg at hd
  simp only [Bool.and_eq_true, Bool.not_eq_true'] at hd
  obtain ⟨a, es, n, hm', kd, ht⟩ := T.ex
  refine PEimp (pe_cmpR (op_notIn_kd kd) (hk W hW) (pe_glob (v := .ref a) hg hm' rfl hd.1.1) hm) fun σ H Q h => ?_
  obtain ⟨G, ev, c, k, hx, h⟩ := h
  refine tG.mk k hx (Post.bind h fun d c1 y H1 s1 k1 r1 h1 => ?_)
  cases d with
  | str z =>
    have h1 : Post X.md G σ H1 ev W (rD X.md (G.O σ ev) G.L) Q (match t.lookup z with
      | some o => .ok (.bl (!o.isSome)) c1
      | none => .bad) := h1
    cases e1 : t.lookup z with
    | none => rw [e1] at h1; exact h1.elim
    | some o =>
      rw [e1] at h1
      obtain rfl := Rep.str_eq r1
      have hz := ht _ (lookup_mem e1)
      cases o with
      | none => exact ⟨z, none, rfl, rfl, hz, h1 (.bl true) H1 .refl k1 (.bl _)⟩
      | some d =>
        obtain ⟨u, v, z1, z2, z3⟩ := hz
        exact ⟨_, some u, rfl, rfl, z1, h1 (.bl false) H1 .refl k1 (.bl _)⟩
  | _ => exact h1.elim
theorem ScX.tabGet2 (S : ScX X B) (T : TabD X.md X.w x t) (h : B.gl x = true) (hk : DE X xo e fk) (hf : DE X xo f fx) (m : M2 X (.Name x p) "get" apos e f cpos) : DE X xo (.Call (.Attribute (.Name x p) "get" apos) [e, f] [] cpos) (eTabGet2 t fk fx) := fun W hW => by
  obtain ⟨hg, hd⟩ := S.gl h
  unfold cDbg at hd
  simp only [Bool.and_eq_true, Bool.not_eq_true'] at hd
  obtain ⟨a, es, n, hm', kd, ht⟩ := T.ex
  refine ⟨fun pins s σ H Q I h => ?_⟩
  obtain ⟨G, ev, c, k, hx, h⟩ := h
  refine wpAny_Call_method m.base m.few m.line PySem.F.plainAttrs_dict PySem.F.slot_dict_get PySem.F.type_dict_get (thn ((pe_glob (X := X) (v := .ref a) hg hm' rfl hd.1.1).run pins s σ H (fun x H1 => x = .ref a ∧ H1 = H) I ⟨rfl, rfl⟩) fun u s1 ⟨x1, H1, I1, rx, e1, e2⟩ => ?_)
  subst e1 e2
  obtain rfl : u = Value.ref a := rx
  have hmp := PySem.W.mapOf_K (prog := X.prog) (w := X.w) I1.kIn kd.at_ kd.lit
  refine ⟨hmp.typeIs, fun b q => ?_, ?_⟩
  · cases q
    obtain ⟨ob, _, _, h1, h2, _⟩ := hmp
    exact ⟨ob, h1, h2.2.1⟩
  rw [m.trees]
  refine Calls.callWith_builtin rfl (Calls.evalArgs_plain (Calls.spliced_cons (thn ((hk W hW).run pins s1 σ H1 (fun y H2 => ∃ (z : Str) (c1 : Int) , y = .str z ∧ Sm G.L H1 H2 ∧ CellOk H2 G.L c1 ∧ Post X.md G σ H2 ev W (rD X.md (G.O σ ev) G.L) Q ((fx ev c1).bind fun y c => match t.lookup z with
    | some o => .ok (o.getD y) c
    | none => .bad)) I1 ?_) fun iv s2 ⟨y, H2, I2, ry, z, c1, ey, sm2, k2, h2⟩ => ?_)))
  · refine tG.mk k hx (Post.bind h fun d c1 y H1 s1 k1 r1 h1 => ?_)
    cases d with
    | str z =>
      obtain rfl := Rep.str_eq r1
      exact ⟨z, c1, rfl, s1, k1, h1⟩
    | _ => exact h1.elim
  subst ey
  have g2 := k.sm sm2 k2
  refine Calls.spliced_cons (thn ((hf W hW).run pins s2 σ H2 (fun y H3 => ∃ (o : Option D) (d : D) (c2 : Int), t.lookup z = some o ∧ Sm G.L H2 H3 ∧ CellOk H3 G.L c2 ∧ Rep X.md H3 (G.O σ ev) G.L y d ∧ Post X.md G σ H3 ev W (rD X.md (G.O σ ev) G.L) Q (.ok (o.getD d) c2)) I2 ?_) fun fv s3 ⟨yv, H3, I3, rz, o, d, c2, el, sm3, k3, r3, h3⟩ => Calls.spliced_nil ?_)
  · refine tG.mk g2 hx (Post.bind h2 fun d c2 y H3 s3 k3 r3 h3 => ?_)
    cases q : t.lookup z with
    | none => rw [q] at h3; exact h3.elim
    | some o => rw [q] at h3; exact ⟨o, d, c2, rfl, s3, k3, r3, h3⟩
  obtain ⟨tk, rfl⟩ := (show ∃ t, iv = Value.str z t from ry)
  have hmp3 := PySem.W.mapOf_K (prog := X.prog) (w := X.w) I3.kIn kd.at_ kd.lit
  have hz := ht _ (lookup_mem el)
  refine call_meetsIn PySem.F.slot_dict_get hmp3.typeIs PySem.F.entry_dict_get (PySem.F.args_dict_get_3 _ _ _) (meets_dict_get_default (PySem.strKind X.prog X.w) a (PySem.strKind_is X.prog X.w z tk) kd.low fv) ⟨_, hmp3, ?_⟩
  cases o with
  | none =>
    have hz : PySem.W.nsIn X.K a z = some none := hz
    rw [PySem.W.find_K kd.at_ hz]
    exact ⟨yv, H3, I3.tok _, rz, h3 yv H3 .refl k3 r3⟩
  | some dv =>
    obtain ⟨u, v, z1, z2, z3⟩ := hz
    rw [PySem.W.find_K kd.at_ z1]
    exact ⟨v, H3, I3.tok _, z2, h3 v H3 .refl k3 (z3 _ _ _)⟩
end
end DW

set_option Elab.async false
set_option linter.all false
set_option maxRecDepth 100000
set_option maxHeartbeats 4000000
/-! DWR: xs[::-1] of a list, a tuple. -/
namespace L2
open PySem PySem.Spec PyProof.Rows HT
theorem fm_congr {α β : Type} {f g : α → Option β} : ∀ {l : List α}, (∀ x ∈ l, f x = g x) → l.filterMap f = l.filterMap g
  | [], _ => rfl
  | x :: l, h => by
    rw [List.filterMap_cons, List.filterMap_cons, h x (List.mem_cons_self ..), fm_congr fun y hy => h y (List.mem_cons_of_mem _ hy)]
theorem rev_range (n : Nat) : (List.range n).map (fun k => n - 1 - k) = (List.range n).reverse := by
  refine List.ext_getElem (by simp) fun i h1 h2 => ?_
  simp only [List.length_map, List.length_range] at h1
  rw [List.getElem_map, List.getElem_range, List.getElem_reverse, List.getElem_range, List.length_range]
theorem pick_rev (xs : Array Value) : ((List.range xs.size).filterMap fun (m : Nat) => xs[(((xs.size : Nat) : Int) - 1 + (m : Int) * (-1)).toNat]?).toArray = xs.toList.reverse.toArray := by
  have e : ((List.range xs.size).filterMap fun (m : Nat) => xs[(((xs.size : Nat) : Int) - 1 + (m : Int) * (-1)).toNat]?) = ((List.range xs.size).map fun k => xs.size - 1 - k).filterMap (fun k => xs[k]?) := by
    rw [List.filterMap_map]
    refine fm_congr fun m hm => ?_
    have hm := List.mem_range.mp hm
    have : (((xs.size : Nat) : Int) - 1 + (m : Int) * (-1)).toNat = xs.size - 1 - m := by omega
    show xs[(((xs.size : Nat) : Int) - 1 + (m : Int) * (-1)).toNat]? = xs[xs.size - 1 - m]?
    rw [this]
  rw [e, rev_range, List.filterMap_reverse, PySem.W.krv_all]
section
variable {prog : Program} {w : World} {A : Around} {E : Value → Shared → Prop} {s : Shared}
theorem sliceApplied_rev {sl : Addr} {vs : Value} {n : Nat} {Q : Int × Int × Nat → Shared → Prop} (hs : s.heap.IsSliceOf sl .none .none vs) (ps : IsPart vs (some (-1)))
    (h : Q ((n : Int) - 1, -1, n) s) : wpAny (model prog w) A (Builtin.Slice.sliceApplied (.ref sl) (pure (n : Int))) Q E s := by
  obtain ⟨os, hos, hcs, hds⟩ := id hs
  unfold Builtin.Slice.sliceApplied Builtin.Slice.sliceFields
  refine wpAny_bind (wpAny_bind (wpAny_field hos hds (x := .none) rfl (wpAny_bind (wpAny_field hos hds (x := .none) rfl (wpAny_bind (wpAny_field hos hds (x := vs) rfl (wpAny_pure ?_)))))))
  refine wpAny_bind (slicePart_ ps ?_)
  show wpAny _ _ (if ((-1 : Int) == 0) = true then _ else _) _ _ s
  rw [if_neg (by decide)]
  refine wpAny_bind (slicePart_none (wpAny_bind (slicePart_none (wpAny_bind (wpAny_pure ?_)))))
  have e : Builtin.Slice.slicePlaces ((n : Int) - 1) (-1) (-1) = n := by
    unfold Builtin.Slice.slicePlaces
    rw [if_neg (by omega)]
    by_cases h0 : n = 0
    · subst h0; rfl
    · rw [if_pos (by omega), show -(-1 : Int) = 1 from rfl, Int.ediv_one]
      omega
  show wpAny _ _ (pure ((n : Int) - 1, (-1 : Int), Builtin.Slice.slicePlaces ((n : Int) - 1) (-1) (-1))) _ _ s
  rw [e]
  exact wpAny_pure h
theorem getItem_tuple_rev {t sl : Addr} {items : Array Value} {vs : Value} {Q : Value → Shared → Prop} (ht : IsTup s.heap t items) (hs : s.heap.IsSliceOf sl .none .none vs) (ps : IsPart vs (some (-1)))
    (h : Q (.ref s.heap.objs.size) { s with heap := s.heap.push { cls := .type "tuple", data := .seq items.toList.reverse.toArray } }) (hsz : items.size ≤ sizeLine) : wpAny (model prog w) A (getItem (.ref t) (.ref sl)) Q E s := by
  have htake : sizeOk (.seq items.toList.reverse.toArray) := by
    show items.toList.reverse.toArray.size ≤ sizeLine
    rw [List.size_toArray, List.length_reverse, Array.length_toList]
    exact hsz
  obtain ⟨os, hos, hcs, hds⟩ := id hs
  have hTs : s.TypeIs (.ref sl) "slice" := ⟨os, hos, hcs⟩
  unfold getItem
  try with_reducible refine wpAny_holding ?_
  first | refine wpAny_bind (wpAny_pure ?_) | skip
  refine wpAny_bind (wpAny_sequenceKey ht.typeIs (by decide) ?_)
  refine wpAny_bind (wpAny_callSpecial?_slot (name := Str.ofString "__getitem__") ht.typeIs PyProof.Rows.slot_tuple_getitem
    (wpAny_call_entry PyProof.Rows.slot_tuple_getitem ht.typeIs entry_tuple_getitem ?_ (args_tuple_getitem _ _)))
  show wpAny _ _ (Builtin.Tuple.tupleItemsOf (.ref t) >>= _) _ _ s
  refine wpAny_bind (tupleItemsOf_ ht ?_)
  refine wpAny_bind (wpAny_typeOf hTs ?_)
  rw [if_pos (by decide)]
  refine wpAny_bind (sliceApplied_rev hs ps ?_)
  have hno : ¬ ((((items.size : Nat) : Int) - 1 == 0 && (-1 : Int) == 1 && items.size == items.size) = true) := by
    rw [show ((-1 : Int) == 1) = false from rfl, Bool.and_false, Bool.false_and]
    exact Bool.false_ne_true
  show wpAny _ _ (if (((items.size : Nat) : Int) - 1 == 0 && (-1 : Int) == 1 && items.size == items.size) = true then _ else _) _ _ s
  rw [if_neg hno, pick_rev]
  first
    | exact wpAny_bind (m := Builtin.Tuple.tupleExact _) (wpAny_newObj_type (wpAny_pure ⟨_, rfl, wpAny_pure h⟩) htake)
    | exact wpAny_bind (m := Builtin.Tuple.tupleExact _) (wpAny_newObj_type (wpAny_bind (wpAny_pure (wpAny_pure ⟨_, rfl, wpAny_pure h⟩))) htake)
    | exact wpAny_bind (wpAny_bind (m := Builtin.Tuple.tupleExact _) (wpAny_newObj_type (wpAny_pure (wpAny_pure ⟨_, rfl, wpAny_pure h⟩)) htake))
    | exact wpAny_bind (wpAny_bind (m := Builtin.Tuple.tupleExact _) (wpAny_newObj_type (wpAny_pure ⟨_, rfl, wpAny_pure h⟩) htake))
end
section
variable {X : Cx}
/-- a list or a tuple turned round -/
def tRevA (K : PySem.W.Frag) (te : TE) : TE := fun σ H Q => te σ H fun x H1 => ∃ a xs, x = .ref a ∧ ((SqL K H1 a xs ∧ ∀ p, H1 p = none → Q (.ref p) (upd H1 p (.lst xs.reverse))) ∨ (SqT K H1 a xs ∧ ∀ p, H1 p = none → Q (.ref p) (upd H1 p (.tup xs.reverse))))
theorem pe_revA {e : Expr} {te : TE} {k : Nat} {p1 p2 p3 pos : Pos} (he : PE X e te) : PE X (.Subscript e (.Slice none none (some (.UnaryOp .USub (.Constant (.int 1) k p1) p2)) p3) pos) (tRevA X.K te) := by
  refine ⟨fun pins s σ H Q I h => ?_⟩
  refine Subscript_ (thn (he.run pins s σ H _ I h) fun v s1 ⟨x, H1, I1, r1, q1⟩ => ?_)
  obtain ⟨a, xs, ex, q⟩ := q1
  subst ex
  cases r1
  have hst : PO X (some (.UnaryOp .USub (.Constant (.int 1) k p1) p2)) (tPart (tUn (rU fun i => .int (-i)) (tC (.int 1)))) := po_some (pe_un un_neg pe_int)
  refine wpAny_Slice (thn (po_none.run pins s1 σ H1 (fun o H2 => o = none ∧ H2 = H1) I1 ⟨rfl, rfl⟩) fun vl s2 ⟨l, H2, I2, pl, el, e2⟩ => ?_)
  subst el e2
  refine thn (po_none.run pins s2 σ H2 (fun o H3 => o = none ∧ H3 = H2) I2 ⟨rfl, rfl⟩) fun vu s3 ⟨u, H3, I3, pu, eu, e3⟩ => ?_
  subst eu e3
  refine thn (hst.run pins s3 σ H3 (fun o H4 => o = some (-1) ∧ H4 = H3) I3 ⟨1, rfl, -1, rfl, rfl, rfl⟩) fun vs s4 ⟨o, H4, I4, ps, eo, e4⟩ => ?_
  subst eo e4
  have I5 : Inv X pins σ H4 { s4 with heap := s4.heap.push { cls := .type "slice", data := .fields #[vl, vu, vs] } } := I4.kept (t' := s4.toks) fun b ob q => Heap.get?_push_of_some _ q
  rcases q with ⟨hx, q⟩ | ⟨hx, q⟩
  · obtain ⟨its, r, ht, hz⟩ := I5.list hx
    have hlen := r.length
    show wpAny (model X.prog X.w) X.A (subscriptTail e (.Slice none none (some (.UnaryOp .USub (.Constant (.int 1) k p1) p2)) p3) (.ref a) (.ref s4.heap.objs.size)) (EP X pins σ Q) X.xe { s4 with heap := s4.heap.push { cls := .type "slice", data := .fields #[vl, vu, vs] } }
    refine tail_any (ops := [.ref a, .ref s4.heap.objs.size]) ht.isList.typeIs (PySem.slot_list_getitem.lookup) ?_ (by with_unfolding_all rfl)
    refine wpAny_getItem_list_slice ht.isList (Heap.IsSliceOf.new _ vl vu vs) pl pu ps (by decide) ?_ (by rw [List.size_toArray]; omega)
    rw [PySem.W.krv_pick]
    refine ⟨.ref _, _, I5.laid (t' := s4.toks) (o := .lst xs.reverse) (fun b ob q => Heap.get?_push_of_some _ q) (Nat.le_refl _) ?_, rfl, q _ (I5.hok.fresh (Nat.le_refl _))⟩
    exact ⟨by rw [List.length_reverse]; exact hz, _, 0, r.reverse, Heap.get?_push_size _ rfl⟩
  · obtain ⟨its, r, ht, hz⟩ := I5.tuple hx
    have hlen := r.length
    cases pl
    cases pu
    show wpAny (model X.prog X.w) X.A (subscriptTail e (.Slice none none (some (.UnaryOp .USub (.Constant (.int 1) k p1) p2)) p3) (.ref a) (.ref s4.heap.objs.size)) (EP X pins σ Q) X.xe { s4 with heap := s4.heap.push { cls := .type "slice", data := .fields #[.none, .none, vs] } }
    refine tail_any (ops := [.ref a, .ref s4.heap.objs.size]) ht.typeIs (PyProof.Rows.slot_tuple_getitem.lookup) ?_ (by with_unfolding_all rfl)
    refine getItem_tuple_rev ht (Heap.IsSliceOf.new _ .none .none vs) ps ?_ (by rw [List.size_toArray]; omega)
    refine ⟨.ref _, _, I5.laid (t' := s4.toks) (o := .tup xs.reverse) (fun b ob q => Heap.get?_push_of_some _ q) (Nat.le_refl _) ?_, rfl, q _ (I5.hok.fresh (Nat.le_refl _))⟩
    exact ⟨by rw [List.length_reverse]; exact hz, _, r.reverse, IsTup.new _ _⟩
end
end L2
namespace DW
open PySem PySem.Spec L2
def dRev : D → Option D
  | .lst xs => some (.lst xs.reverse)
  | .tup xs => some (.tup xs.reverse)
  | _ => none
theorem RepA.rev {M : Md} {H : Hp} {O : Addr → Prop} {L : Option Addr} {vs : List V} {ds : List D} (h : RepA M H O L vs ds) : RepA M H O L vs.reverse ds.reverse := by
  match vs, ds, h with
  | [], [], _ => exact .nil
  | v :: vs, d :: ds, .cons r1 r2 =>
    rw [List.reverse_cons, List.reverse_cons]
    exact (RepA.rev r2).append (.cons r1 .nil)
section
variable {X : Cx} {xo : Xo} {e : Expr} {fe : E} {k : Nat} {p1 p2 p3 pos : Pos}
theorem DE.rev (he : DB X xo e fe) : DE X xo (.Subscript e (.Slice none none (some (.UnaryOp .USub (.Constant (.int 1) k p1) p2)) p3) pos) (eUn dRev fe) := fun W hW => by
  refine PEimp (pe_revA (he W hW)) fun σ H Q h => ?_
  obtain ⟨G, ev, c, k, hx, h⟩ := h
  refine tG.mk k hx (Post.bind h fun d c1 v H1 s1 k1 r1 h1 => ?_)
  have g1 := k.sm s1 k1
  obtain ⟨d', e', q⟩ := Post.op g1 h1
  have r1 : RepB X.md H1 (G.O σ ev) G.L v d := r1
  unfold dRev at e'
  split at e'
  · obtain ⟨a, vs, rfl, h1, h2⟩ := r1.lst_eq
    cases e'
    exact ⟨a, vs, rfl, .inl ⟨.of h1, fun p np => q _ _ (same_updN np) (.lst upd_same (fun z => g1.tr z np) (h2.rev.upd np))⟩⟩
  · obtain ⟨a, vs, rfl, h1, h2⟩ := r1.tup_eq
    cases e'
    exact ⟨a, vs, rfl, .inr ⟨h1, fun p np => q _ _ (same_updN np) (.tup upd_same (fun z => g1.tr z np) (h2.rev.upd np))⟩⟩
  · cases e'
end
/-! ### a new list: xs + ys -/
def gCat : D → D → Option D
  | .lst xs, .lst ys => if xs.length + ys.length ≤ sizeLine then some (.lst (xs ++ ys)) else none
  | _, _ => none
section
variable {X : Cx} {xo : Xo} {pos : Pos}
theorem DF.cat {a b : Expr} {fa fb : E} (ha : DB X xo a fa) (hb : DB X xo b fb) : DF X xo (.BinOp a .Add b pos) (eBin gCat fa fb) := fun W hW => by
  refine PEimp (pe_op op_cat (ha W hW) (hb W hW)) fun σ H Q h => ?_
  obtain ⟨G, ev, c, k, hx, h⟩ := h
  refine tG.mk k hx (PostF.bind k h fun dx c1 x H1 s1 k1 g1 r1 h1 => ?_)
  refine tG.mk g1 hx (PostF.bind g1 h1 fun dy c2 y H2 s2 k2 g2 r2 h2 => ?_)
  have r1' : RepB X.md H2 (G.O σ ev) G.L x dx := RepB.sm s2 r1
  have r2' : RepB X.md H2 (G.O σ ev) G.L y dy := r2
  cases ez : gCat dx dy with
  | none => rw [ez] at h2; exact h2.elim
  | some xs =>
    rw [ez] at h2
    unfold gCat at ez
    split at ez
    · obtain ⟨a, ws, rfl, h3, h4⟩ := r1'.lst_eq
      obtain ⟨b, us, rfl, h5, h6⟩ := r2'.lst_eq
      split at ez <;> cases ez
      rename_i z
      exact ⟨_, _, _, _, rfl, rfl, h3, h5, by rw [RepA.length h4, RepA.length h6]; exact z, fun p np => PostF.new h2 k2 np (.lst (h4.append h6))⟩
    · cases ez
end
end DW

set_option Elab.async false
set_option linter.all false
set_option maxRecDepth 100000
set_option maxHeartbeats 4000000
/-! DWU: a module's table asked in a test. -/
namespace DW
open PySem PySem.Spec L2
theorem tTru_tabIn {t : Tab} {f : E} {ev : Env} {c : Int} : tTru (eTabIn t f) ev c = (f ev c).bind fun d c => match d with
  | .str z => (match t.lookup z with
    | some o => .ok o.isSome c
    | none => .bad)
  | _ => .bad := by
  unfold tTru eTabIn
  cases f ev c with
  | ok d c =>
    cases d with
    | str z =>
      show R.bind (match t.lookup z with | some o => R.ok (D.bl o.isSome) c | none => .bad) _ = (match t.lookup z with | some o => R.ok o.isSome c | none => .bad)
      cases t.lookup z <;> rfl
    | _ => rfl
  | exc _ _ => rfl
  | bad => rfl
theorem tTru_tabNin {t : Tab} {f : E} {ev : Env} {c : Int} : tTru (eTabNin t f) ev c = (f ev c).bind fun d c => match d with
  | .str z => (match t.lookup z with
    | some o => .ok (!o.isSome) c
    | none => .bad)
  | _ => .bad := by
  unfold tTru eTabNin
  cases f ev c with
  | ok d c =>
    cases d with
    | str z =>
      show R.bind (match t.lookup z with | some o => R.ok (D.bl (!o.isSome)) c | none => .bad) _ = (match t.lookup z with | some o => R.ok (!o.isSome) c | none => .bad)
      cases t.lookup z <;> rfl
    | _ => rfl
  | exc _ _ => rfl
  | bad => rfl
section
variable {X : Cx} {xo : Xo} {B : Blk} {x : Str} {t : Tab} {e : Expr} {fk : E} {p pos : Pos}
theorem ScX.tTabIn (S : ScX X B) (T : TabD X.md X.w x t) (h : B.gl x = true) (hk : DE X xo e fk) (hm : behindInMarks .In (.Name x p) = false := by first | exact nobehind _ (by decide) (by decide) | rfl) : DT X xo (.Compare e [.In] [.Name x p] pos) (tTru (eTabIn t fk)) := fun W hW => by
  obtain ⟨hg, hd⟩ := S.gl h
  unfold cDbg at hd
  simp only [Bool.and_eq_true, Bool.not_eq_true'] at hd
  obtain ⟨a, es, n, hm', kd, ht⟩ := T.ex
  refine PTimp (pt_cmpR (op_in_kd kd) (hk W hW) (pe_glob (v := .ref a) hg hm' rfl hd.1.1) hm) fun σ H Q h => ?_
  obtain ⟨G, ev, c, k, hx, h⟩ := h
  rw [tTru_tabIn] at h
  refine tG.mk k hx (Post.bind h fun d c1 y H1 s1 k1 r1 h1 => ?_)
  cases d with
  | str z =>
    have h1 : Post X.md G σ H1 ev W (rB (G.O σ ev) G.L) Q (match t.lookup z with
      | some o => .ok o.isSome c1
      | none => .bad) := h1
    cases e1 : t.lookup z with
    | none => rw [e1] at h1; exact h1.elim
    | some o =>
      rw [e1] at h1
      obtain rfl := Rep.str_eq r1
      have hz := ht _ (lookup_mem e1)
      cases o with
      | none => exact ⟨z, none, rfl, rfl, hz, false, rfl, h1 false H1 .refl k1 rfl⟩
      | some d =>
        obtain ⟨u, v, z1, z2, z3⟩ := hz
        exact ⟨_, some u, rfl, rfl, z1, true, rfl, h1 true H1 .refl k1 rfl⟩
  | _ => exact h1.elim
theorem ScX.tTabNin (S : ScX X B) (T : TabD X.md X.w x t) (h : B.gl x = true) (hk : DE X xo e fk) (hm : behindInMarks .NotIn (.Name x p) = false := by first | exact nobehind _ (by decide) (by decide) | rfl) : DT X xo (.Compare e [.NotIn] [.Name x p] pos) (tTru (eTabNin t fk)) := fun W hW => by
  obtain ⟨hg, hd⟩ := S.gl h
  unfold cDbg at hd
  simp only [Bool.and_eq_true, Bool.not_eq_true'] at hd
  obtain ⟨a, es, n, hm', kd, ht⟩ := T.ex
  refine PTimp (pt_cmpR (op_notIn_kd kd) (hk W hW) (pe_glob (v := .ref a) hg hm' rfl hd.1.1) hm) fun σ H Q h => ?_
  obtain ⟨G, ev, c, k, hx, h⟩ := h
  rw [tTru_tabNin] at h
  refine tG.mk k hx (Post.bind h fun d c1 y H1 s1 k1 r1 h1 => ?_)
  cases d with
  | str z =>
    have h1 : Post X.md G σ H1 ev W (rB (G.O σ ev) G.L) Q (match t.lookup z with
      | some o => .ok (!o.isSome) c1
      | none => .bad) := h1
    cases e1 : t.lookup z with
    | none => rw [e1] at h1; exact h1.elim
    | some o =>
      rw [e1] at h1
      obtain rfl := Rep.str_eq r1
      have hz := ht _ (lookup_mem e1)
      cases o with
      | none => exact ⟨z, none, rfl, rfl, hz, true, rfl, h1 true H1 .refl k1 rfl⟩
      | some d =>
        obtain ⟨u, v, z1, z2, z3⟩ := hz
        exact ⟨_, some u, rfl, rfl, z1, false, rfl, h1 false H1 .refl k1 rfl⟩
  | _ => exact h1.elim
end
end DW

set_option Elab.async false
set_option linter.all false
set_option maxRecDepth 100000
set_option maxHeartbeats 4000000
/-! DW14: chains of comparisons; defs keep their mirrors; the law's end. -/
namespace DW
open PySem PySem.Spec L2

/-! ### a op b op' c -/
def eChain (g g' : D → D → Option D) (a b d : E) : E := fun ev c => (a ev c).bind fun x c => (b ev c).bind fun y c => (R.of (g x y) c).bind fun z c => match z with
  | .bl true => (d ev c).bind fun w c => R.of (g' y w) c
  | .bl false => .ok (.bl false) c
  | _ => .bad
section
variable {X : Cx} {xo : Xo} {a b d : Expr} {fa fb fd : E} {pos : Pos} {op op' : CmpOp} {g g' : D → D → Option D}
theorem chain_read {G : Gd} {σ : St} {H : Hp} {ev : Env} {c : Int} {W : WX} {Q : V → Hp → Prop} (hbl : ∀ x y d, g x y = some d → ∃ k, d = .bl k) (k : Gk X.md G σ H ev c) (hx : G.xo = xo)
    (h : Post X.md G σ H ev W (rD X.md (G.O σ ev) G.L) Q (eChain g g' fa fb fd ev c)) : tChain (rOp X.md g) (rOp X.md g') (tG X.md xo (rBo X.md) fa W) (tG X.md xo (rBo X.md) fb W) (tG X.md xo (rBo X.md) fd W) σ H Q := by
  refine tG.mk k hx (Post.bind h fun dx c1 x H1 s1 k1 r1 h1 => ?_)
  refine tG.mk (k.sm s1 k1) hx (Post.bind h1 fun dy c2 y H2 s2 k2 r2 h2 => ?_)
  have g2 := (k.sm s1 k1).sm s2 k2
  cases e : g dx dy with
  | none => rw [e] at h2; exact h2.elim
  | some z =>
    obtain ⟨kb, rfl⟩ := hbl _ _ _ e
    rw [e] at h2
    refine ⟨G.O σ ev, G.L, dx, dy, _, fun a => g2.tr, RepB.sm s2 r1, r2, e, fun zv H3 s3 r3 => ?_⟩
    cases r3
    refine ⟨kb, rfl, ?_⟩
    have g3 := g2.same s3
    have h3 := Post.from h2 (.of_same s3)
    cases kb with
    | false =>
      rw [if_neg Bool.false_ne_true]
      exact h3 (.bl false) H3 .refl g3.cell (.bl false)
    | true =>
      rw [if_pos rfl]
      have h3 : Post X.md G σ H3 ev W (rD X.md (G.O σ ev) G.L) Q ((fd ev c2).bind fun w c => R.of (g' dy w) c) := h3
      refine tG.mk g3 hx (Post.bind h3 fun dw c4 w H4 s4 k4 r4 h4 => ?_)
      obtain ⟨d', e', q⟩ := Post.op (g3.sm s4 k4) h4
      exact ⟨G.O σ ev, G.L, dy, dw, d', fun a => (g3.sm s4 k4).tr, RepB.sm s4 (RepB.sm (.of_same s3) r2), r4, e', q⟩
theorem DE.chain (hbl : ∀ x y d, g x y = some d → ∃ k, d = .bl k) (ho : OpD X (compareOp op) g) (ho' : OpD X (compareOp op') g') (ha : DB X xo a fa) (hb : DB X xo b fb) (hd : DB X xo d fd)
    (hm : lastMarks [op, op'] [b, d] = false := by with_unfolding_all rfl) : DE X xo (.Compare a [op, op'] [b, d] pos) (eChain g g' fa fb fd) := fun W hW => by
  refine PEimp (pe_chain ho ho' (ha W hW) (hb W hW) (hd W hW) hm) fun σ H Q h => ?_
  obtain ⟨G, ev, c, k, hx, h⟩ := h
  exact chain_read hbl k hx h
theorem eChain_bl (hbl' : ∀ x y d, g' x y = some d → ∃ k, d = .bl k) {ev : Env} {c c' : Int} {z : D} (h : eChain g g' fa fb fd ev c = .ok z c') : ∃ k, z = .bl k := by
  unfold eChain at h
  cases e1 : fa ev c with
  | bad => rw [e1] at h; cases h
  | exc _ _ => rw [e1] at h; cases h
  | ok x c1 =>
    rw [e1] at h
    have h : (R.bind (fb ev c1) fun y c => (R.of (g x y) c).bind fun z c => match z with
      | .bl true => (fd ev c).bind fun w c => R.of (g' y w) c
      | .bl false => .ok (.bl false) c
      | _ => .bad) = .ok z c' := h
    cases e2 : fb ev c1 with
    | bad => rw [e2] at h; cases h
    | exc _ _ => rw [e2] at h; cases h
    | ok y c2 =>
      rw [e2] at h
      have h : ((R.of (g x y) c2).bind fun z c => match z with
        | .bl true => (fd ev c).bind fun w c => R.of (g' y w) c
        | .bl false => .ok (.bl false) c
        | _ => .bad) = .ok z c' := h
      cases e3 : g x y with
      | none => rw [e3] at h; cases h
      | some v =>
        rw [e3] at h
        have h : (match v with
          | .bl true => (fd ev c2).bind fun w c => R.of (g' y w) c
          | .bl false => .ok (.bl false) c2
          | _ => R.bad) = .ok z c' := h
        split at h
        · cases e4 : fd ev c2 with
          | bad => rw [e4] at h; cases h
          | exc _ _ => rw [e4] at h; cases h
          | ok w c3 =>
            rw [e4] at h
            have h : R.of (g' y w) c3 = .ok z c' := h
            cases e5 : g' y w with
            | none => rw [e5] at h; cases h
            | some v =>
              rw [e5] at h
              cases h
              exact hbl' _ _ _ e5
        · cases h
          exact ⟨_, rfl⟩
        · cases h
/-- .. as a test -/
theorem DT.chain (hbl : ∀ x y d, g x y = some d → ∃ k, d = .bl k) (hbl' : ∀ x y d, g' x y = some d → ∃ k, d = .bl k) (ho : OpD X (compareOp op) g) (ho' : OpD X (compareOp op') g') (ha : DB X xo a fa) (hb : DB X xo b fb) (hd : DB X xo d fd)
    (hm : lastMarks [op, op'] [b, d] = false := by with_unfolding_all rfl) : DT X xo (.Compare a [op, op'] [b, d] pos) (tTru (eChain g g' fa fb fd)) := fun W hW => by
  refine PTimp (pt_chain ho ho' (ha W hW) (hb W hW) (hd W hW) hm) fun σ H Q h => ?_
  obtain ⟨G, ev, c, k, hx, h⟩ := h
  refine chain_read (W := W) (Q := fun z H3 => ∃ k, z = .bl k ∧ Q k H3) hbl k hx ?_
  unfold tTru at h
  cases e : eChain g g' fa fb fd ev c with
  | bad => rw [e] at h; exact h
  | exc x c' => rw [e] at h; exact h
  | ok z c' =>
    rw [e] at h
    obtain ⟨kb, rfl⟩ := eChain_bl hbl' e
    intro v H' s k1 r
    cases r
    exact ⟨kb, rfl, h kb H' s k1 rfl⟩
end

/-! ### a def keeps its mirror -/
/-- what holds of the context of a def's body -/
structure Cn (X : Cx) (P : Program) (w : World) (M : Md) (base : Heap) (k : Nat) : Prop where
  prog : X.prog = P
  w : X.w = w
  K : X.K = M.K
  mg : X.mg = M.mg
  base : X.base = base
  room : Room k X.A
  gd : X.A.guards = some []
  po : PassesOwn (model X.prog X.w) X.A X.env X.xe
  stk : X.stack = X.env :: X.outer
  frm : X.env.frame = some X.env.locals
  globM : True
theorem Cn.call {X : Cx} {P : Program} {w : World} {M : Md} {base : Heap} {k j : Nat} {x : Str} {f : Addr} {fd : FuncData} {ps : List Str} {F : Fn} (C : Cn X P w M base k) (hF : FnG P w M.K M.mg base (L2.CX P w) j f fd ps (spD M F)) (hj : j ≤ k) (hm : M.mg x = some (.ref f))
    (kp : PySem.W.keepIn M.K (.ref f) = true) (bd : Binds M.K fd ps []) : CallOk X x F := by
  obtain ⟨h1, h2, h3, h4, h5, h6, h7, _⟩ := C
  obtain ⟨K, mg⟩ := M
  subst h1 h2 h5
  dsimp only at h3 h4 hF hm kp bd
  subst h3 h4
  exact ⟨j, f, fd, ps, hF, h6.mono hj, h7, hm, kp, bd⟩
/-- a body as a function -/
def runF (n m : Nat) (b : SF) : Fn := fun ds c => if ds.length = n then match b (ds.map .val ++ List.replicate (m - n) .no) c with
  | .ret d c => .ok d c
  | .nx _ c => .ok .non c
  | .exc x _ c => .exc x c
  | _ => .bad else .bad
theorem start_val {M : Md} {H : Hp} {O : Addr → Prop} {L : Option Addr} {N : List Str} : ∀ {vs : List V} {ds : List D}, RepA M H O L vs ds → ∀ (i : Nat) (d : D), (ds.map S.val ++ List.replicate (N.length - ds.length) .no)[i]? = some (.val d) → ∃ v, (start N vs)[i]? = some (some v) ∧ Rep M H O L v d := by
  intro vs ds r i d e
  have hl := RepA.length r
  by_cases hi : i < ds.length
  · rw [List.getElem?_append_left (by simpa using hi), List.getElem?_map] at e
    cases q : ds[i]? with
    | none => rw [q] at e; cases e
    | some d' =>
      rw [q] at e
      cases e
      obtain ⟨v, h1, h2⟩ := r.get q
      refine ⟨v, ?_, h2⟩
      unfold L2.start
      rw [List.getElem?_append_left (by rw [List.length_map]; omega), List.getElem?_map, h1]
      rfl
  · rw [List.getElem?_append_right (by simpa using hi), List.getElem?_replicate] at e
    split at e <;> cases e
theorem start_no {N : List Str} {ds : List D} {i : Nat} {z : S} (e : (ds.map S.val ++ List.replicate (N.length - ds.length) S.no)[i]? = some z) : z = .no ∨ ∃ d, z = .val d := by
  by_cases hi : i < ds.length
  · rw [List.getElem?_append_left (by simpa using hi), List.getElem?_map] at e
    cases q : ds[i]? with
    | none => rw [q] at e; cases e
    | some d' => rw [q] at e; cases e; exact .inr ⟨_, rfl⟩
  · rw [List.getElem?_append_right (by simpa using hi), List.getElem?_replicate] at e
    split at e <;> cases e
    exact .inl rfl
/-- the state at the entry -/
theorem gk_start {M : Md} {H : Hp} {Fo : Addr → Prop} {L : Option Addr} {c : Int} {N : List Str} {vs : List V} {ds : List D} (fo : ∀ a, Fo a → H a ≠ none) (ce : CellOk H L c) (r : RepA M H (fun a => Fo a ∨ L = some a) L vs ds) (hN : ds.length ≤ N.length) :
    Gk M ⟨H, Fo, L, none, []⟩ (start N vs) H (ds.map .val ++ List.replicate (N.length - ds.length) .no) c := by
  have hO : ∀ a, Gd.O ⟨H, Fo, L, none, []⟩ (start N vs) (ds.map S.val ++ List.replicate (N.length - ds.length) .no) a → Fo a ∨ L = some a := fun a h => by
    rcases h with h | h | ⟨i, d, e, _⟩ | h
    · exact .inl h
    · exact .inr h
    · rcases start_no e with z | ⟨_, z⟩ <;> cases z
    · cases h
  have F : Fz (fun a => Fo a ∨ L = some a) H (Gd.O ⟨H, Fo, L, none, []⟩ (start N vs) (ds.map S.val ++ List.replicate (N.length - ds.length) .no)) H := fz_sub hO
  have hl := RepA.length r
  refine ⟨?_, .refl, ce, fo, fun a e z => ?_, fun i d e => ?_, fun i d e => ?_, (fun i j d d' a e => ?_), (fun p hp => (by cases hp)), List.nodup_nil, (fun a ha => (by cases ha)), (fun i x e => ?_)⟩
  · unfold L2.start
    rw [List.length_append, List.length_append, List.length_map, List.length_map, List.length_replicate, List.length_replicate]
    omega
  · have z' : H a = none := z
    rw [ce a e] at z'; cases z'
  · obtain ⟨v, h1, h2⟩ := start_val (r.fz F fun _ z => z) i d e
    exact ⟨v, h1, h2⟩
  · rcases start_no e with z | ⟨_, z⟩ <;> cases z
  · rcases start_no e with z | ⟨_, z⟩ <;> cases z
  · rcases start_no e with z | ⟨_, z⟩ <;> cases z
section
variable {P : Program} {w : World} {K : PySem.W.Frag} {mg : Str → Option Value} {base : Heap} {x qual : Str} {params : Arguments} {body : List Stmt} {scope : Scope} {f : Addr} {fd : FuncData} {N ps : List Str} {k : Nat}
/-- the body of a def, run under guards none -/
theorem fnG_of {sp : Sp} (FD : FunD K x qual params body scope [] [] f fd) (S : FnScope N ps scope) (len : ∀ vs H Q E, sp vs H Q E → vs.length = ps.length)
    (hbody : ∀ (cdv : Value) (A : Around) (outer : List PySem.Env) (s : Shared) (H : Hp) (vs : List V) (Q : VK) (E : XK), Room k (A.deeper (PyProof.Rows.envOfC qual scope s.heap.objs.size f cdv)) → A.guards = some [] → sp vs H Q E →
      ∃ t, PSs (cxOf (L2.CX P w) P w K mg base N qual scope f cdv A outer s H E) body t ∧ t { nx := fun _ H' => Q .non H', rt := Q } (start N vs) H) : FnG P w K mg base (L2.CX P w) (k + 1) f fd ps sp := by
  obtain ⟨oc, od, dV, kV, doc, pm, an, cdv, ct, osl, rfl, lk, hcd, _, _⟩ := FD.ex
  refine ⟨len, fun A outer s H args us vs Q E hr hg e0 hb r hsp => ?_⟩
  have hl := len _ _ _ _ hsp
  have KX : K.In s.heap := e0.mod.kin.keeps fun b o e => (e0.bs b o e).1
  have lim : s.heap.NoLimit := e0.mod.nolimit.keeps fun b o e => (e0.bs b o e).1
  have hkind : ∀ y ∈ ps.zip us, scope.names.lookup y.1 = some .local ∨ (scope.names.lookup y.1 = some .cell ∧ ((cellsFrom (s.heap.objs.size + 1) scope.names []).lookup y.1).isSome = true) := fun ⟨n, v⟩ hy => by
    rcases S.par n (List.of_mem_zip hy).1 with q | q
    · exact .inl q
    · exact .inr ⟨q, PySem.W.cellsFrom_some _ _ _ (.inl q)⟩
  refine codeAny_call_function hr.depth (KX _ _ lk) rfl S.co S.gen rfl (PySem.W.codeRec_of KX hcd) (hb _ _ _ _ ?_)
  refine wpAny_newFunctionEnv_cells S.kind hkind fun env he s1 x => ?_
  subst he
  refine ⟨lim.keeps x.toInCall.keep, codeAny_func ?_⟩
  obtain ⟨t, ht, hq⟩ := hbody cdv A outer s H vs Q E (hr.deeper _) hg hsp
  have I := inv_start (CX := L2.CX P w) (qual := qual) (E := E) S hr.hd e0 hl r x
  refine wpAny_mono (ht.run [] s1 (start N vs) H _ I hq) (fun fl s' hs => ?_) fun e s' hs => hs
  cases fl with
  | ret u =>
    obtain ⟨v, σ', H', J, rv, q⟩ := hs
    exact ⟨v, H', J.os, J.bare, J.base, J.hok, rv, q⟩
  | next =>
    obtain ⟨σ', H', J, q⟩ := hs
    exact ⟨V.non, H', J.os, J.bare, J.base, J.hok, rfl, q⟩
  | brk =>
    obtain ⟨_, _, _, q⟩ := hs
    exact False.elim q
  | cont =>
    obtain ⟨_, _, _, q⟩ := hs
    exact False.elim q
/-- THE RULE of a def: its mirror -/
theorem okD {b : SF} (FD : FunD K x qual params body scope [] [] f fd) (S : FnScope N ps scope) (hN : ps.length ≤ N.length)
    (hbody : ∀ X : Cx, Cn X P w ⟨K, mg⟩ base k → ScX X ⟨scope, N, fun _ => true⟩ → DSs X none false body b) : FnG P w K mg base (L2.CX P w) (k + 1) f fd ps (spD ⟨K, mg⟩ (runF ps.length N.length b)) := by
  refine fnG_of FD S (fun vs H Q E h => ?_) fun cdv A outer s H vs Q E hr hg h => ?_
  · obtain ⟨Fo, L, ds, c, h1, h2, h3, h4⟩ := h
    rw [RepA.length h3]
    unfold runF at h4
    by_cases hl : ds.length = ps.length
    · exact hl
    · rw [if_neg hl] at h4; exact h4.elim
  · obtain ⟨Fo, L, ds, c, h1, h2, h3, h4⟩ := h
    unfold runF at h4
    by_cases hl : ds.length = ps.length
    · rw [if_pos hl] at h4
      generalize hX : cxOf (L2.CX P w) P w K mg base N qual scope f cdv A outer s H E = X
      have C : Cn X P w ⟨K, mg⟩ base k := by
        subst hX
        exact ⟨rfl, rfl, rfl, rfl, rfl, hr, hg, passes_of rfl, rfl, rfl, trivial⟩
      have SX : ScX X ⟨scope, N, fun _ => true⟩ := by
        subst hX
        exact ⟨rfl, rfl, S.nd, rfl, fun _ _ => rfl⟩
      have tk : Takes X (fun cls d _ H => E cls d H) := by
        subst hX
        exact takes_of rfl rfl rfl rfl
      have hmd : X.md = ⟨K, mg⟩ := by subst hX; rfl
      refine ⟨_, hbody X C SX _ tk, ?_⟩
      rw [hmd]
      have gk := gk_start (M := ⟨K, mg⟩) (N := N) h1 h2 h3 (by rw [hl]; exact hN)
      rw [hl] at gk
      refine ⟨_, _, c, gk, rfl, ?_⟩
      have sub : ∀ {σ' : St} {H' : Hp} {ev' : Env}, Fz (Gd.O ⟨H, Fo, L, none, []⟩ σ' ev') H' (fun a => Fo a ∨ L = some a) H' := fun {σ' H' ev'} => fz_sub fun a z => by
        rcases z with z | z
        · exact .inl z
        · exact .inr (.inl z)
      cases e : b (ds.map .val ++ List.replicate (N.length - ps.length) .no) c with
      | nx ev' c' => rw [e] at h4; exact fun σ' H' g F => h4 .non H' g.keep g.cell .non
      | ret d c' => rw [e] at h4; exact fun v H' s k r => h4 v H' s k r
      | exc z ev' c' => rw [e] at h4; exact fun cls d σ' H' g F r => h4 cls d H' g.keep g.cell (r.fz sub fun _ z => z)
      | brk _ _ => rw [e] at h4; exact h4.elim
      | cnt _ _ => rw [e] at h4; exact h4.elim
      | bad => rw [e] at h4; exact h4.elim
    · rw [if_neg hl] at h4; exact h4.elim
end

/-! ### the law -/
/-- a body ahead of the counter's making -/
def tSn (M : Md) (xo : Xo) (lo : Bool) (f : SF) (W : WX) : TS := fun D' σ H => ∃ G ev c, Gk M G σ H ev c ∧ G.xo = xo ∧ G.L = none ∧ PostS M lo G σ H ev W D' (f ev c)
def DSn (X : Cx) (xo : Xo) (lo : Bool) (st : List Stmt) (f : SF) : Prop := ∀ W, Takes X W → PSs X st (tSn X.md xo lo f W)
def sNewCell (i : Nat) (n : Int) (f : SF) : SF := fun ev _ => if i < ev.length then match f (ev.set i (.val .cell)) n with
  | .ret d c => .ret d c
  | _ => .bad else .bad
section
variable {X : Cx} {B : Blk} {xo : Xo} {st : Stmt} {rest : List Stmt} {f g : SF} {x : Str} {p pos : Pos} {n : Int} {j : Nat} {ip lp : Pos}
theorem DSn.cons {lo : Bool} (h1 : DS X xo lo st f) (h2 : DSn X xo lo rest g) : DSn X xo lo (st :: rest) (sSeq f g) := fun W hW => by
  refine PSsimp (pss_cons (h1 W hW) (h2 W hW)) fun D' σ H h => ?_
  obtain ⟨G, ev, c, k, hx, hL, h⟩ := h
  unfold sSeq at h
  refine tS.mk k hx ?_
  cases e : f ev c with
  | nx ev' c' =>
    rw [e] at h
    exact fun σ' H' g' z => ⟨G, ev', c', g', hx, hL, PostS.from h z⟩
  | ret d c' => rw [e] at h; exact h
  | brk ev' c' => rw [e] at h; exact h
  | cnt ev' c' => rw [e] at h; exact h
  | exc x ev' c' => rw [e] at h; exact h
  | bad => rw [e] at h; exact h
/-- x = [n], the counter -/
theorem DSn.cell (S : ScX X B) (i : Nat) (h : B.tgt i x = true) (h2 : DSs X none true rest f) : DSn X none true (.Assign [.Name x p] (.List [.Constant (.int n) j ip] lp) pos :: rest) (sNewCell i n f) := fun W hW => by
  obtain ⟨a1, a2, a3⟩ := S.tgtN h
  refine PSsimp (pss_cons (ps_set S.nd a1 a2 (pe_lst (pa_cons pe_int pa_nil)) rfl a3) (h2 W hW)) fun D' σ H h => ?_
  obtain ⟨G, ev, c, k, hx, hL, h⟩ := h
  unfold sNewCell at h
  by_cases hl : i < ev.length
  · rw [if_pos hl] at h
    refine ⟨by show 1 ≤ sizeLine; rw [sizeLine_eq]; decide, fun a na => ?_⟩
    show tS X.md none true f W D' (σ.set i (some (.ref a))) (upd H a (.lst [V.int n]))
    have s0 := same_updN (o := .lst [V.int n]) na
    -- the state with the counter
    have nO : ∀ b, G.O σ ev b → b ≠ a := fun b z e => k.tr z (by rw [e]; exact na)
    have h0 : ∀ b, G.H0 b ≠ none → b ≠ a := fun b z e => k.ne0 z (by rw [e]; exact na)
    let G2 : Gd := ⟨fun b => if b = a then some (.lst [V.int n]) else G.H0 b, G.Fo, some a, none, G.Tm⟩
    have hO2 : ∀ b, G2.O σ ev b → G.O σ ev b ∨ b = a := fun b z => by
      rcases z with z | z | z | z
      · exact .inl (.inl z)
      · cases z; exact .inr rfl
      · exact .inl (.inr (.inr (.inl z)))
      · exact .inl (.inr (.inr (.inr z)))
    have F : Fz (G.O σ ev) H (G2.O σ ev) (upd H a (.lst [V.int n])) := fun b o e nb => ⟨s0 b o e, fun z => by
      rcases hO2 b z with z | z
      · exact nb z
      · rw [z, na] at e; cases e⟩
    have lift : ∀ b, G.L = some b → G2.L = some b := fun b z => by rw [hL] at z; cases z
    have ow : ∀ {b : Addr} {d : D}, Ow X.md G σ H ev b d → Ow X.md G2 σ (upd H a (.lst [V.int n])) ev b d := fun {b d} ⟨z1, ho, z2, r⟩ => by
      have hb : b ≠ a := fun e => by rw [e, na] at z2; cases z2
      exact ⟨by show (if b = a then _ else G.H0 b) = none; rw [if_neg hb]; exact z1, ho, s0 b _ z2, r.fz F lift⟩
    have g2 : Gk X.md G2 σ (upd H a (.lst [V.int n])) ev n := by
      refine ⟨k.len, fun b o e nb => ?_, fun b e => ?_, fun b e => ?_, fun b e => ?_, fun i d e => ?_, fun i d e => ?_, k.dist, fun p hp => ow (k.tm p hp), k.tmd, k.tmo, fun i x e => ?_⟩
      · have e' : (if b = a then some (HO.lst [V.int n]) else G.H0 b) = some o := e
        by_cases hb : b = a
        · rw [if_pos hb] at e'
          rw [hb, upd_same]
          exact e'
        · rw [if_neg hb] at e'
          exact s0 b o (k.keep b o e' (by rw [hL]; exact fun z => by cases z))
      · have : a = b := Option.some.inj e
        rw [← this]
        exact upd_same
      · show (if b = a then _ else G.H0 b) ≠ none
        have hb := h0 b (k.fo b e)
        rw [if_neg hb]
        exact k.fo b e
      · have : a = b := Option.some.inj e
        show (if b = a then _ else G.H0 b) ≠ none
        rw [if_pos this.symm]
        exact fun z => by cases z
      · obtain ⟨v, q1, r⟩ := k.val i d e
        exact ⟨v, q1, r.fz F lift⟩
      · obtain ⟨b, q1, q2⟩ := k.own i d e
        exact ⟨b, q1, ow q2⟩
      · obtain ⟨b, cls, d, q1, _⟩ := k.ex i x e
        rw [hx] at q1; cases q1
    obtain ⟨g3, _⟩ := g2.setVal (i := i) (v := .ref a) (d := .cell) (.cell rfl)
    refine ⟨G2, _, n, g3, rfl, ?_⟩
    cases e : f (ev.set i (.val .cell)) n with
    | ret d c' => rw [e] at h; exact h
    | nx _ _ => rw [e] at h; exact h.elim
    | brk _ _ => rw [e] at h; exact h.elim
    | cnt _ _ => rw [e] at h; exact h.elim
    | exc _ _ _ => rw [e] at h; exact h.elim
    | bad => rw [e] at h; exact h.elim
  · rw [if_neg hl] at h; exact h.elim
end
/-- what is asked of the law's def -/
def spLaw (K : PySem.W.Frag) (n : Nat) : Sp := fun vs H Q _ => ∃ (a : Addr) (ns : List Int), vs = [.ref a] ∧ ns.length ≤ n ∧ SqL K H a (ns.map V.int) ∧ ∀ H', Q (.bl true) H'
section
variable {P : Program} {w : World} {K : PySem.W.Frag} {mg : Str → Option Value} {base : Heap} {x qual : Str} {params : Arguments} {body : List Stmt} {scope : Scope} {f : Addr} {fd : FuncData} {N : List Str} {k : Nat} {y : Str}
theorem okLaw {b : SF} {n : Nat} (FD : FunD K x qual params body scope [] [] f fd) (S : FnScope N [y] scope) (hN : 1 ≤ N.length)
    (hbody : ∀ X : Cx, Cn X P w ⟨K, mg⟩ base k → ScX X ⟨scope, N, fun _ => true⟩ → DSn X none true body b)
    (hb : ∀ ns : List Int, ns.length ≤ n → ∃ c, b (.val (.scr ns) :: List.replicate (N.length - 1) .no) 0 = .ret (.bl true) c) : FnG P w K mg base (L2.CX P w) (k + 1) f fd [y] (spLaw K n) := by
  refine fnG_of FD S (fun vs H Q E h => ?_) fun cdv A outer s H vs Q E hr hg h => ?_
  · obtain ⟨a, ns, rfl, _⟩ := h
    rfl
  · obtain ⟨a, ns, rfl, hn, hS, hq⟩ := h
    generalize hX : cxOf (L2.CX P w) P w K mg base N qual scope f cdv A outer s H E = X
    have C : Cn X P w ⟨K, mg⟩ base k := by
      subst hX
      exact ⟨rfl, rfl, rfl, rfl, rfl, hr, hg, passes_of rfl, rfl, rfl, trivial⟩
    have SX : ScX X ⟨scope, N, fun _ => true⟩ := by
      subst hX
      exact ⟨rfl, rfl, S.nd, rfl, fun _ _ => rfl⟩
    have tk : Takes X (fun cls d _ H => E cls d H) := by
      subst hX
      exact takes_of rfl rfl rfl rfl
    have hmd : X.md = ⟨K, mg⟩ := by subst hX; rfl
    refine ⟨_, hbody X C SX _ tk, ?_⟩
    rw [hmd]
    have rep : RepA ⟨K, mg⟩ H (fun a => False ∨ (none : Option Addr) = some a) none [V.ref a] [D.scr ns] := by
      refine .cons ?_ .nil
      have no : ¬ (False ∨ (none : Option Addr) = some a) := fun z => by
        rcases z with z | z
        · exact z
        · cases z
      rcases id hS with (h | ⟨o, h⟩) | h
      · exact .scr h hS no
      · exact .scr h hS no
      · exact .scrK (.inr h)
    have gk := gk_start (M := ⟨K, mg⟩) (N := N) (Fo := fun _ => False) (L := none) (c := 0) (fun _ z => z.elim) (fun _ z => by cases z) rep hN
    obtain ⟨c, e⟩ := hb ns hn
    refine ⟨_, _, 0, gk, rfl, rfl, ?_⟩
    have e' : b (([D.scr ns]).map .val ++ List.replicate (N.length - [D.scr ns].length) .no) 0 = .ret (.bl true) c := e
    rw [e']
    exact ⟨true, rfl, fun H' => hq H'⟩
end
theorem onlyLaw {K : PySem.W.Frag} {n : Nat} {H : Hp} {a : Addr} {ns : List Int} (hn : ns.length ≤ n) (hS : SqL K H a (ns.map V.int)) : spLaw K n [.ref a] H (fun v _ => v = .bl true) fun _ _ _ => False := ⟨a, ns, rfl, hn, hS, fun _ => rfl⟩
end DW

set_option Elab.async false
set_option linter.all false
set_option maxRecDepth 100000
set_option maxHeartbeats 4000000
/-! DW15: the law's end, where no repr is under way (after HandS.Ends, HandS.HeadEnd). -/
namespace DW
open PySem PySem.Spec L2
open PyProof.Rows
theorem law_callG {P : Program} {w : World} {K : PySem.W.Frag} {mg mb : Str → Option Value} {k n : Nat} {fa a : Addr} {fd : FuncData} {x : Str} {s₁ : Shared} {vs : List Value} {ns : List Int}
    (KX : K.In s₁.heap) (hns : s₁.heap.Ns mainGlobals mg) (hb : s₁.heap.Ns builtinsNs mb) (hbb : ∀ x : Str, x ≠ "__name__" → mb x = bootBuiltins x) (hlim : s₁.heap.NoLimit) (hg : s₁.gens = #[])
    (ha : s₁.heap.get? a = some { cls := .type "list", data := .seq vs.toArray }) (hi : IntsAre vs ns) (hl : ns.length ≤ sizeLine) (hn : ns.length ≤ n) (hr : Room k callerA)
    (F : ∀ base : Heap, K.In base → base.Ns mainGlobals mg → FnG P w K mg base (L2.CX P w) k fa fd [x] (spLaw K n)) (hbind : ∀ (s : Shared) (u : Value), BindsTo s fd ⟨[u], []⟩ [(x, u)])
    (hCX : ∀ H e s', L2.CX P w [] H s₁ (fun _ _ _ => False) e s' → False) :
    codeAny (model P w) callerA (.call (.ref fa) ⟨[.ref a], []⟩) (fun r s' => r = .ok (.ret (.bool true)) ∧ OldK s₁.heap s'.heap ∧ s'.os = s₁.os ∧ AllBare s'.gens) s₁ := by
  have rv := vals_ints hi
  have lenV := hi.length
  have core : ∀ H : Hp, Only H → SqL K H a (ns.map V.int) → HOk P w H s₁.heap → (∀ b, H b ≠ none → b = a) → (H a ≠ none → K.lookup a = none) →
      codeAny (model P w) callerA (.call (.ref fa) ⟨[.ref a], []⟩) (fun r s' => r = .ok (.ret (.bool true)) ∧ OldK s₁.heap s'.heap ∧ s'.os = s₁.os ∧ AllBare s'.gens) s₁ := by
    intro H hO hS hok hA hK
    have base_of : ∀ {b : Addr} {o : Obj}, s₁.heap.get? b = some o → H b = none → (L2.hidT s₁.heap H).get? b = some o := fun e n => hidT_get e n
    have noA : ∀ {b : Addr} {o : Obj} {es : Array DictEntry} {ep : Nat}, s₁.heap.get? b = some o → o.data = .dict es ep → H b = none := fun {b o es ep} e d => by
      cases q : H b with
      | none => rfl
      | some u =>
        have e' : b = a := hA b (by rw [q]; simp)
        subst e'
        rw [ha] at e; cases e
        have d' : Data.seq vs.toArray _ = Data.dict es ep := d
        cases d'
    have nsK : ∀ {b : Addr} {m : Str → Option Value}, s₁.heap.Ns b m → (L2.hidT s₁.heap H).Ns b m := fun {b m} ⟨o, es, ep, e, d, r⟩ => ⟨o, es, ep, base_of e (noA e d), d, r⟩
    have hKb : K.In (L2.hidT s₁.heap H) := fun b o e => base_of (KX b o e) (by
      cases q : H b with
      | none => rfl
      | some u =>
        have e' : b = a := hA b (by rw [q]; simp)
        subst e'
        rw [hK (by rw [q]; simp)] at e; cases e)
    have hM : Mod K mg (L2.hidT s₁.heap H) := ⟨hKb, nsK hns, ⟨mb, nsK hb, hbb⟩, let ⟨mc, h1, h2⟩ := hlim; ⟨mc, nsK h1, h2⟩⟩
    have e0 : Env0 P w K mg (L2.hidT s₁.heap H) callerA [] s₁ H := ⟨rfl, hM, fun b o e => of_hidT e, Nat.le_of_eq (hidT_size _ _), trivial, fun b hb => absurd (show b ∈ ([] : List Addr) from hb) (by simp), hok, .of_eq hg⟩
    refine codeAny_mono ((F _ hKb (nsK hns)).run callerA [] s₁ H ⟨[.ref a], []⟩ [.ref a] [.ref a] _ _ hr rfl e0 (hbind s₁ (.ref a)) (.cons rfl .nil) (onlyLaw hn hS)) fun r s' h => ?_
    cases r with
    | error e => exact (hCX H e s' h).elim
    | ok fl =>
      cases fl with
      | next => exact False.elim h
      | brk => exact False.elim h
      | cont => exact False.elim h
      | ret u =>
        obtain ⟨v, H', os, bare, un, hok', r', q⟩ := h
        have q' : v = .bl true := q
        subst q'
        obtain rfl : u = Value.bool true := r'
        refine ⟨rfl, OldK.of_keep fun b o e => ?_, os, bare⟩
        cases q : H b with
        | none => exact un.keep b o e q (by intro z; exact absurd (show b ∈ ([] : List Addr) from z) (by simp)) (by simp)
        | some u =>
          rcases hO b with z | ⟨ob, xs, z⟩
          · rw [q] at z; cases z
          · have z2 := un.frzs b ob _ z
            obtain ⟨e1, _⟩ := hok b _ z
            obtain ⟨e2, _⟩ := hok' b _ z2
            rw [e] at e1; cases e1
            exact e2
  cases hk : K.lookup a with
  | some o =>
    have e := KX a o hk
    rw [ha] at e
    cases e
    refine core (fun _ => none) (fun _ => .inl rfl) (.inr ⟨_, vs.toArray, _, hk, rfl, rfl, rfl, by rw [List.size_toArray, lenV]; exact hl, by simpa using rv⟩) (fun b u z => by have z' : (none : Option HO) = some u := z; cases z') (fun b z => absurd rfl z) fun z => absurd rfl z
  | none =>
    refine core (fun b => if b = a then some (.frz { cls := .type "list", data := .seq vs.toArray } (.lst (ns.map V.int))) else none) (fun b => ?_) (.inl (.inr ⟨{ cls := .type "list", data := .seq vs.toArray }, if_pos rfl⟩)) (fun b u z => ?_) (fun b z => ?_) fun _ => hk
    · by_cases hb : b = a
      · exact .inr ⟨_, _, if_pos hb⟩
      · exact .inl (if_neg hb)
    · by_cases hb : b = a
      · have z' := (if_pos hb).symm.trans z
        cases z'
        subst hb
        exact ⟨ha, by rw [List.length_map]; exact hl, vs, _, rv, ha⟩
      · have z' := (if_neg hb).symm.trans z
        cases z'
    · by_cases hb : b = a
      · exact hb
      · exact absurd (if_neg hb) z
/-- a law over a head by facts -/
theorem walk_G {l : PySem.W.OpenLaw} {n k : Nat} {q : Program} {loose : List Str} {XP : (Str → Option Value) → Heap → Prop} {YP : World → Heap → Prop} {d : DefRec} {x : Str}
    (hn : l.most = some n) (hn2 : n ≤ sizeLine) (hdf : d.params.defaults = []) (hr : Room k callerA)
    (F : ∀ (w : World) (mg : Str → Option Value) (fa : Addr) (h : Heap), YP w h → h.Ns mainGlobals mg → mg d.name = some (.ref fa) →
      ∃ (K : PySem.W.Frag) (fd : FuncData), K.In h ∧ (∀ (s : Shared) (u : Value), BindsTo s fd ⟨[u], []⟩ [(x, u)]) ∧
        ∀ base : Heap, K.In base → base.Ns mainGlobals mg → FnG l.prog w K mg base (L2.CX l.prog w) k fa fd [x] (spLaw K n)) :
    PySem.W.WalkO q loose XP YP l.row.toRowW d [] (fun f vs => PySem.call f vs) := by
  refine Att.attach_call hn hdf fun w s₀ s₁ mg mb fa o pm cd doc a vs ns G Y ho hd hcd hmg hobj hints hlen hg => ?_
  obtain ⟨K, fd, KX, hb, hF⟩ := F w mg fa _ Y G.T.g hmg
  exact law_callG KX G.T.g G.T.b G.T.builtins G.T.nolimit hg hobj hints (Nat.le_trans hlen hn2) hlen hr hF hb fun H e s' ⟨_, _, _, _, _, _, _, _, _, _, _, _, z⟩ => z.elim
end DW

set_option Elab.async false
set_option linter.all false
set_option maxRecDepth 100000
set_option maxHeartbeats 4000000
/-! DW16: what a law's defs take for granted; words for printed proofs. -/
namespace DW
open PySem PySem.Spec L2
/-- facts of a block's context; Fx: the law's own -/
structure Zb (Fx : Program → World → Md → Prop) (X : Cx) : Prop where
  un : X.A.units + 64 < cLine
  un5 : X.A.units + 65 < cLine
  gd : X.A.guards = some []
  rm : ∃ k, Room k X.A
  fx : Fx X.prog X.w X.md
/-- .. of a def's body -/
structure Zx (Fx : Program → World → Md → Prop) (X : Cx) : Prop extends Zb Fx X where
  po : PassesOwn (model X.prog X.w) X.A X.env X.xe
  stk : X.stack = X.env :: X.outer
  frm : X.env.frame = some X.env.locals
def ErrF (P : Program) (M : Md) (x f : Str) : Prop := ∃ C Dc fI cc cda, PySem.DWX.ErrTxt P M.K C Dc fI cc cda f ∧ M.mg x = some (.ref C) ∧ M.mg "super" = none
section
variable {Fx : Program → World → Md → Prop} {X : Cx} {scope : Scope} {x f : Str}
theorem Zb.in (z : Zb Fx X) (s : Shared) (H : Hp) (L : Addr) (cl : List (Str × Addr)) (fp : List Addr) : Zb Fx (X.blk s H scope (compEnvC scope cl L X.env) fp) := ⟨z.un, z.un5, z.gd, z.rm, z.fx⟩
theorem Zx.tr (z : Zx Fx X) (pn : List (Addr × Obj)) (xe : Value → Shared → Prop) (po : PassesOwn (model X.prog X.w) X.A X.env xe) : Zx Fx (X.tr pn xe) := ⟨⟨z.un, z.un5, z.gd, z.rm, z.fx⟩, po, z.stk, z.frm⟩
theorem ScX.tr {B : Blk} (S : ScX X B) (pn : List (Addr × Obj)) (xe : Value → Shared → Prop) : ScX (X.tr pn xe) B := ⟨S.sc, S.N, S.nd, S.calm, S.fn⟩
theorem CallOk.tr {F : Fn} (C : CallOk X x F) (pn : List (Addr × Obj)) (xe : Value → Shared → Prop) : CallOk (X.tr pn xe) x F := C
theorem Zb.err (z : Zb Fx X) (h : ErrF X.prog X.md x f) : ErrOk X x f := by
  obtain ⟨k, hk⟩ := z.rm
  obtain ⟨C, Dc, fI, cc, cda, h1, h2, h3⟩ := h
  exact ⟨k, C, Dc, fI, cc, cda, h1, h2, h3, hk⟩
theorem CallOk.fnv {B : Blk} {xo : Xo} {F : Fn} {pos : Pos} (C : CallOk X x F) (S : ScX X B) (h : B.gl x = true) : DE X xo (.Name x pos) (eK (.fn x)) := by
  obtain ⟨k, f, fd, ps, _, _, _, hm, _⟩ := C
  exact S.fnv hm h
/-- an own object or a value, lent -/
def eAny (i : Nat) : E := fun ev c => match ev[i]? with
  | some (.own d) => .ok d c
  | some (.val d) => .ok d c
  | _ => .bad
theorem ScX.any {B : Blk} {xo : Xo} {pos : Pos} (S : ScX X B) (i : Nat) {x : Str} (h : B.var i x = true) : DB X xo (.Name x pos) (eAny i) := fun W hW => by
  obtain ⟨hN, hv, hd⟩ := S.visN h
  unfold cDbg at hd
  simp only [Bool.and_eq_true, Bool.not_eq_true'] at hd
  refine PEimp (pe_var hN hv hd.1.1 hd.1.2) fun σ H Q h => ?_
  obtain ⟨G, ev, c, k, hx, h⟩ := h
  unfold eAny at h
  split at h
  · rename_i d e
    obtain ⟨a, h1, h2, ho, h3, h4⟩ := k.own i d e
    exact ⟨_, h1, h _ H .refl k.cell (.inr ⟨a, ho, rfl, fun z => k.lo a z h2, h3, h4⟩)⟩
  · rename_i d e
    obtain ⟨v, h1, h2⟩ := k.val i d e
    exact ⟨v, h1, h v H .refl k.cell (.inl h2)⟩
  · exact h.elim
/-- at the entry -/
theorem Cn.zx {P : Program} {w : World} {M : Md} {base : Heap} {k : Nat} (C : Cn X P w M base k) (h : Fx P w M) : Zx Fx X := by
  obtain ⟨h1, h2, h3, h4, h5, h6, h7, h8, h9, h10, _⟩ := C
  obtain ⟨K, mg⟩ := M
  refine ⟨⟨by have := h6.un; omega, by have := h6.un; omega, h7, ⟨k, h6⟩, ?_⟩, h8, h9, h10⟩
  subst h1 h2
  dsimp only at h3 h4
  subst h3 h4
  exact h
end
/-- frozen, if it is one's own -/
def sFz (i : Nat) (f : SF) : SF := fun ev c => match ev[i]? with
  | some (.own d) => f (ev.set i (.val d)) c
  | _ => f ev c
section
variable {Fx : Program → World → Md → Prop} {X : Cx} {xo : Xo} {lo : Bool} {B : Blk} {x f : Str}
theorem DS.fz {st : Stmt} {f : SF} (i : Nat) (h1 : DS X xo lo st f) : DS X xo lo st (sFz i f) := fun W hW => by
  refine PSimp (h1 W hW) fun D' σ H h => ?_
  obtain ⟨G, ev, c, k, hx, h⟩ := h
  unfold sFz at h
  split at h
  · rename_i xs he
    obtain ⟨k2, F⟩ := k.freeze he
    exact tS.mk k2 hx (PostS.from h F)
  · exact tS.mk k hx h
theorem ScV.xat {cl : List Str} {a : Addr} {oe : Obj} {cls : Value} {d : Option Addr} {pn : List (Addr × Obj)} {pos p : Pos} (S : ScX X B) (i : Nat) (T : ErrFl X.md cl f) (hz : Zc cls d oe) (hf : ∃ vs, oe.data = .fields vs) (h : B.var i x = true)
    (hb : attributeBase (.Name x p) f X.env (eval (.Name x p) X.env) = eval (.Name x p) X.env := by rfl) : DE (X.suite a ((a, oe) :: pn)) (some (a, cls, d)) (.Attribute (.Name x p) f pos) (eXat cl i f) := let ⟨h1, h2, h3⟩ := S.visN h; DE.xat i T hz hf h1 h2 h3 hb
theorem ScV.xis {cl : List Str} {ans : Str → Bool} {c : Str} {a : Addr} {oe : Obj} {cls : Value} {d : Option Addr} {pn : List (Addr × Obj)} {pos p p0 p1 : Pos} (S : ScX X B) (i : Nat) (T : ErrIs X.md cl c ans) (hm : X.mg "isinstance" = none) (hgi : B.gl "isinstance" = true) (hgc : B.gl c = true) (hz : Zc cls d oe) (hf : ∃ vs, oe.data = .fields vs) (h : B.var i x = true)
    (he : starEach [.Name x p, .Name c p1] X.env = (false, eval (.Name x p) X.env) :: starEach [.Name c p1] X.env := by rfl) (hpl : (backTo pos (starEach [.Name c p1] X.env)).any (·.1) = false := by rfl) :
    DE (X.suite a ((a, oe) :: pn)) (some (a, cls, d)) (.Call (.Name "isinstance" p0) [.Name x p, .Name c p1] [] pos) (eXis cl ans i) := let ⟨h1, h2, h3⟩ := S.visN h; let ⟨g1, _⟩ := S.gl hgi; let ⟨g2, g3⟩ := S.gl hgc; DE.xis i T hm g1 g2 g3 hz hf h1 h2 h3 he hpl
theorem HsD.as' {n fl : Str} {i : Nat} {f : SF} {b₀ : Stmt} {suite : List Stmt} {np pos' : Pos} {hds : List ExceptHandler} {l : List Hd} (S : ScX X B) (hE : ErrF X.prog X.md x fl) (h : B.gl x = true) (hi : B.var i n = true) (hln : kL (B.sc.names.lookup n) = true)
      (hsu : ∀ (a : Addr) (oe : Obj) (cls : Value) (d : Option Addr) (pn : List (Addr × Obj)), Zc cls d oe → (∃ vs, oe.data = .fields vs) → DSs (X.suite a ((a, oe) :: pn)) (some (a, cls, d)) lo (b₀ :: suite) f) (r : HsD X lo hds l) :
      HsD X lo (.ExceptHandler (some (.Name x np)) (some n) (b₀ :: suite) pos' :: hds) ((x, some i, f) :: l) := by
  obtain ⟨C, _, _, _, _, _, hC, _⟩ := hE
  obtain ⟨g1, g2⟩ := S.gl h
  exact .as hC g1 g2 (S.visN hi).1 (by show X.env.scope.names.lookup n = _; rw [S.sc]; exact kL_ok hln) hsu r
theorem HsD.bare' {fl : Str} {f : SF} {b₀ : Stmt} {suite : List Stmt} {np pos' : Pos} {hds : List ExceptHandler} {l : List Hd} (S : ScX X B) (hE : ErrF X.prog X.md x fl) (h : B.gl x = true)
      (hsu : ∀ (a : Addr) (oe : Obj) (cls : Value) (d : Option Addr) (pn : List (Addr × Obj)), Zc cls d oe → (∃ vs, oe.data = .fields vs) → DSs (X.suite a ((a, oe) :: pn)) none lo (b₀ :: suite) f) (r : HsD X lo hds l) :
      HsD X lo (.ExceptHandler (some (.Name x np)) none (b₀ :: suite) pos' :: hds) ((x, none, f) :: l) := by
  obtain ⟨C, _, _, _, _, _, hC, _⟩ := hE
  obtain ⟨g1, g2⟩ := S.gl h
  exact .bare hC g1 g2 hsu r
end
/-- a def keeps its promise, by its name -/
def DefOk (P : Program) (w : World) (M : Md) (base : Heap) (k : Nat) (x : Str) (F : Fn) : Prop := ∃ (f : Addr) (fd : FuncData) (ps : List Str), FnG P w M.K M.mg base (L2.CX P w) k f fd ps (spD M F) ∧ M.mg x = some (.ref f) ∧ PySem.W.keepIn M.K (.ref f) = true ∧ Binds M.K fd ps []
theorem Cn.ok {X : Cx} {P : Program} {w : World} {M : Md} {base : Heap} {k j : Nat} {x : Str} {F : Fn} (C : Cn X P w M base k) (h : DefOk P w M base j x F) (hj : j ≤ k) : CallOk X x F := by
  obtain ⟨f, fd, ps, h1, h2, h3, h4⟩ := h
  exact C.call h1 hj h2 h3 h4
theorem DefOk.mk {P : Program} {w : World} {M : Md} {base : Heap} {k : Nat} {x qual y : Str} {params : Arguments} {body : List Stmt} {scope : Scope} {f : Addr} {fd : FuncData} {N ps : List Str} {b : SF} (FD : FunD M.K x qual params body scope [] [] f fd) (hm : M.mg y = some (.ref f)) (S : FnScope N ps scope) (hN : ps.length ≤ N.length) (bd : Binds M.K fd ps [])
    (hbody : ∀ X : Cx, Cn X P w M base k → ScX X ⟨scope, N, fun _ => true⟩ → DSs X none false body b) : DefOk P w M base (k + 1) y (runF ps.length N.length b) :=
  ⟨f, fd, ps, okD FD S hN hbody, hm, FD.kp, bd⟩
end DW

set_option Elab.async false
set_option linter.all false
set_option maxRecDepth 100000
set_option maxHeartbeats 4000000
/-! DW17: the head's facts for printed laws: defs, constants, error classes, by a Hook of my own. -/
namespace PySem
namespace DWX
open PySem.W PySem.Calls PyProof.Rows PySem.HandSPX
open L2 (defArgs defBody defScope)
/-! ### an error class, looked at -/
/-- class and field -/
abbrev EF : Type := Str × Str
def eC (K : Frag) (x : Str) : Addr := He.ga K x
def eI (K : Frag) (x : Str) : Addr := He.ma K (He.ga K x) "__init__"
def eFd (K : Frag) (x : Str) : Option FuncData := match K.lookup (eI K x) with
  | some ⟨_, _, .func fd, _⟩ => some fd
  | _ => none
def clC : List (Str × Addr) → Addr
  | [(_, a)] => a
  | _ => 0
def eCC (K : Frag) (x : Str) : Addr := match eFd K x with
  | some fd => clC fd.closure
  | none => 0
def eD (K : Frag) (x : Str) : Addr := match K.lookup (eCC K x) with
  | some ⟨_, _, .cell (some (.ref D)), _⟩ => D
  | _ => 0
def eCd (K : Frag) (x : Str) : Addr := match eFd K x with
  | some fd => (match fd.code with
    | .ref c => c
    | _ => 0)
  | none => 0
def isSome2 (o : Option Value) : Bool := match o with
  | some (.builtin n) => decide (n = "ValueError.__new__")
  | _ => false
def clsB (K : Frag) (C : Addr) : Bool := match K.lookup C with
  | some ⟨.type t, _, .cls cd, sl⟩ => (match cd.mro, sl.toList with
    | .ref C' :: bm, [_, _, _, _, o, _] => decide (t = "type") && (decide (C' = C) && (isSome2 o && (!cd.hasDel && (cd.hasDict && refsVE bm))))
    | _, _ => false)
  | _ => false
theorem ba {a b : Bool} (h : (a && b) = true) : a = true ∧ b = true := Bool.and_eq_true_iff.mp h
theorem clsB_ok {K : Frag} {C : Addr} (q : clsB K C = true) : ∃ nm q N bs bm sn sub ab col dd k0 k1 k2 k3 k5, K.lookup C = some (excClassObj nm q C N bs bm true sn sub ab col dd k0 k1 k2 k3 k5 "ValueError.__new__") ∧ refsVE bm = true := by
  unfold clsB at q
  split at q
  · rename_i t dd cd sl ho
    split at q
    · rename_i C' bm k0 k1 k2 k3 o k5 hm hs
      obtain ⟨q1, q⟩ := ba q
      obtain ⟨q2, q⟩ := ba q
      obtain ⟨q3, q⟩ := ba q
      obtain ⟨q4, q⟩ := ba q
      obtain ⟨q5, q6⟩ := ba q
      have e1 := of_decide_eq_true q1
      have e2 := of_decide_eq_true q2
      subst e1 e2
      obtain ⟨nm, bs, mro, ns, qn, hd, sn, sub, ab, col, del⟩ := cd
      dsimp only at hm q4 q5
      subst hm q5
      have q4 : del = false := by cases del <;> simp_all
      subst q4
      have e3 : o = some (.builtin "ValueError.__new__") := by
        unfold isSome2 at q3
        split at q3
        · rw [of_decide_eq_true q3]
        · cases q3
      subst e3
      have hsl : sl = #[k0, k1, k2, k3, some (.builtin "ValueError.__new__"), k5] := by
        obtain ⟨l⟩ := sl
        simp only at hs
        rw [hs]
      subst hsl
      exact ⟨nm, qn, ns, bs, bm, sn, sub, ab, col, dd, k0, k1, k2, k3, k5, ho, q6⟩
    · cases q
  · cases q
def fileB (K : Frag) (c : Addr) (file : Str) : Bool := match K.lookup c with
  | some ⟨_, _, .fields vs, _⟩ => (match vs[2]? with
    | some (Value.str f _) => file == f
    | _ => false)
  | _ => false
theorem fileB_ok {K : Frag} {c : Addr} {g : Str} (q : fileB K c g = true) : ∃ ccl cdd vs ccs file tf, K.lookup c = some ⟨ccl, cdd, .fields vs, ccs⟩ ∧ vs[2]? = some (.str file tf) ∧ (g == file) = true := by
  unfold fileB at q
  split at q
  · rename_i a b vs d ho
    split at q
    · rename_i f t hv
      exact ⟨_, _, _, _, _, _, ho, hv, q⟩
    · cases q
  · cases q
/-- the names and shapes of the __init__ that x has -/
abbrev IV : Type := Option (Str × Str × Arguments × FuncBody × Scope × Addr × Addr)
def iObs (K : Frag) (x : Str) : IV := (eFd K x).map fun fd => (fd.name, fd.qualname, fd.params, fd.body, fd.scope, fd.globals, fd.builtins)
def clIs : List (Str × Addr) → Bool
  | [(n, _)] => decide (n = "__class__")
  | _ => false
def noneB : Value → Bool
  | .none => true
  | _ => false
theorem noneB_ok {v : Value} (h : noneB v = true) : v = .none := by cases v <;> first | rfl | cases h
def errB (K : Frag) (file qual : Str) (e : EF) : Bool :=
  let C := eC K e.1
  let fI := eI K e.1
  let D := eD K e.1
  clsB K C && (He.eqO (findIn K (.ref C) "__setattr__") (some (some (.builtin "object.__setattr__"))) && (He.eqO (findIn K (.ref C) e.2) (some none) && (He.eqO (findIn K (.ref C) "__init__") (some (some (.ref fI))) &&
    (decide (typeIn K (.ref fI) = some (.type "function")) && (keepIn K (.ref C) && (decide (subIn K (.ref C) (.type "BaseException") = some true) && (decide (typeIn K (.ref C) = some (.type "type")) &&
    (He.eqO (ks_superIn K C D "__init__") (some (some (.builtin "ValueError.__init__"))) && (decide (subIn K (.ref C) (.type "ValueError") = some true) && (He.eqO (nsIn K cStatics "thirdparty.any") (some none) &&
    ((clsIn K D).isSome && (decide (mroIn K C (.ref D) = some true) && (fileB K (eCd K e.1) file && (codeIn K (.ref (eCd K e.1)) qual && (match eFd K e.1 with
      | some fd => clIs fd.closure && (noneB fd.defaults && (noneB fd.kwdefaults && (decide (fd.code = .ref (eCd K e.1)))))
      | none => false) && (match K.lookup (eCC K e.1) with
      | some ⟨_, _, .cell (some (.ref _)), _⟩ => true
      | _ => false)))))))))))))))
abbrev EvalOk (p : Str) (q0 q1 q2 q3 q4 : Pos) : Prop := ∀ env : Env, ∃ pl : Sem Bool, eval (.Call (.Attribute (.Call (.Name "super" q0) [] [] q1) "__init__" q2) [.Name p q3] [] q4) env = (do
      let ov ← attributeBase (.Call (.Name "super" q0) [] [] q1) "__init__" env (eval (.Call (.Name "super" q0) [] [] q1) env)
      standAt q2.atName
      let (f, first) ← holding [ov] (getMethod ov "__init__" pl)
      callWith q4 f first (backTo q4 (starEach [.Name p q3] env)) [])
/-- where in the text an error's __init__ stands: its shape and scope -/
structure ISc (p : Str) (st : Stmt) : Prop where
  args : ∃ p1 p2, defArgs st = iA p p1 p2
  body : ∃ q0 q1 q2 q3 q4 q5 q6 q7 q8 q9, defBody st = iB p q0 q1 q2 q3 q4 q5 q6 q7 q8 q9 ∧ EvalOk p q0 q1 q2 q3 q4
  k : (defScope st).kind = .function
  co : (defScope st).isCoroutine = false
  gen : (defScope st).isGenerator = false
  cell : ((defScope st).names.all fun x => !decide (x.2 = .cell)) = true
  su : (defScope st).names.lookup ("super" : Str) = some .globalImplicit
  cl : (defScope st).names.lookup ("__class__" : Str) = some .free
  se : (defScope st).names.lookup ("self" : Str) = some .local
  pa : (defScope st).names.lookup p = some .local
  ne : p ≠ "self"
  db : (p == ("__debug__" : Str)) = false
abbrev BindOk (p : Str) : Prop := ∀ (qual : Str) (sc : Scope) (doc pm ct : Value) (an : Option Addr) (cda cc : Addr) (p1 p2 q0 q1 q2 q3 q4 q5 q6 q7 q8 q9 : Pos) (x v : Value),
    bindArgs (ksFn "__init__" qual (iA p p1 p2) (iB p q0 q1 q2 q3 q4 q5 q6 q7 q8 q9) sc .none .none doc pm an (.ref cda) ct cc) { pos := [x, v] } = pure [(("self" : Str), x), (p, v)]
theorem bind_reason : BindOk "reason" := fun _ _ _ _ _ _ _ _ _ _ _ _ _ _ _ _ _ _ _ _ _ _ => rfl
theorem bind_at : BindOk "at" := fun _ _ _ _ _ _ _ _ _ _ _ _ _ _ _ _ _ _ _ _ _ _ => rfl
theorem bind_line : BindOk "line" := fun _ _ _ _ _ _ _ _ _ _ _ _ _ _ _ _ _ _ _ _ _ _ => rfl
theorem errTxt_of {prog : Program} {K : Frag} {x p qual : Str} {st : Stmt} (S : ISc p st) (bd : BindOk p) (top : (prog.main.scope.names.lookup ("super" : Str)).isSome = false)
    (o : iObs K x = some (("__init__" : Str), qual, defArgs st, FuncBody.stmts (defBody st), defScope st, mainGlobals, builtinsNs)) (c : errB K prog.main.file qual (x, p) = true) : ErrTxt prog K (eC K x) (eD K x) (eI K x) (eCC K x) (eCd K x) p := by
  unfold errB at c
  obtain ⟨c1, c⟩ := ba c
  obtain ⟨c2, c⟩ := ba c
  obtain ⟨c3, c⟩ := ba c
  obtain ⟨c4, c⟩ := ba c
  obtain ⟨c5, c⟩ := ba c
  obtain ⟨c6, c⟩ := ba c
  obtain ⟨c7, c⟩ := ba c
  obtain ⟨c8, c⟩ := ba c
  obtain ⟨c9, c⟩ := ba c
  obtain ⟨c10, c⟩ := ba c
  obtain ⟨c11, c⟩ := ba c
  obtain ⟨c12, c⟩ := ba c
  obtain ⟨c13, c⟩ := ba c
  obtain ⟨c14, c⟩ := ba c
  obtain ⟨c15, c17⟩ := ba c
  obtain ⟨c15, c16⟩ := ba c15
  have hcl : ∃ cl cld csl, K.lookup (eCC K x) = some ⟨cl, cld, .cell (some (.ref (eD K x))), csl⟩ := by
    split at c17
    · rename_i a b D e ho
      refine ⟨a, b, e, ?_⟩
      have : eD K x = D := by
        unfold eD
        rw [ho]
      rw [this]
      exact ho
    · cases c17
  obtain ⟨cdD, hD⟩ : ∃ cdD, clsIn K (eD K x) = some cdD := Option.isSome_iff_exists.mp c12
  refine ⟨clsB_ok c1, He.eqO_ok c2, He.eqO_ok c3, He.eqO_ok c4, of_decide_eq_true c5, c6, of_decide_eq_true c7, of_decide_eq_true c8, He.eqO_ok c9, of_decide_eq_true c10, He.eqO_ok c11,
    ⟨cdD, hD⟩, of_decide_eq_true c13, hcl, fileB_ok c14, top, ?_⟩
  unfold iObs at o
  cases ef : eFd K x with
  | none =>
    rw [ef] at o
    cases o
  | some fd =>
    rw [ef] at o
    dsimp only at c16
    rw [ef] at c16
    obtain ⟨d1, d⟩ := ba c16
    obtain ⟨d2, d⟩ := ba d
    obtain ⟨d3, d4⟩ := ba d
    have e2 := noneB_ok d2
    have e3 := noneB_ok d3
    have e4 := of_decide_eq_true d4
    have ecc : eCC K x = clC fd.closure := by
      unfold eCC
      rw [ef]
    have hof : ∃ oc od osl, K.lookup (eI K x) = some ⟨oc, od, .func fd, osl⟩ := by
      unfold eFd at ef
      split at ef
      · rename_i a b fd' d ho
        cases ef
        exact ⟨_, _, _, ho⟩
      · cases ef
    obtain ⟨oc, od, osl, hof⟩ := hof
    obtain ⟨p1, p2, hA⟩ := S.args
    obtain ⟨q0, q1, q2, q3, q4, q5, q6, q7, q8, q9, hB, ev⟩ := S.body
    obtain ⟨n1, n2, n3, n4, n5, n6, n7, n8, n9, n10, n11, n12, n13, n14, n15⟩ := fd
    have o2 : (some (n1, n2, n3, n4, n5, n6, n15) : IV) = some (("__init__" : Str), qual, defArgs st, FuncBody.stmts (defBody st), defScope st, mainGlobals, builtinsNs) := o
    simp only [Option.some.injEq, Prod.mk.injEq] at o2
    obtain ⟨h1, h2, h3, h4, h5, h6, h7⟩ := o2
    subst h1 h2 h3 h4 h5 h6 h7
    dsimp only at e2 e3 e4 d1 ecc
    subst e2 e3
    have ecl : n7 = [(("__class__" : Str), eCC K x)] := by
      unfold clIs at d1
      split at d1
      · rename_i n a
        rw [ecc, of_decide_eq_true d1]
        rfl
      · cases d1
    subst ecl
    refine ⟨oc, od, n2, defScope st, n10, n11, n12, n14, osl, p1, p2, q0, q1, q2, q3, q4, q5, q6, q7, q8, q9, ?_, c15, S.k, S.co, S.gen, fun y hy => ?_, S.su, S.cl, S.se, S.pa, S.ne, S.db, fun a b => bd _ _ _ _ _ _ _ _ _ _ _ _ _ _ _ _ _ _ _ _ a b, ev⟩
    · rw [hof, hA, hB, e4]
    · have := List.all_eq_true.mp S.cell y hy
      intro z
      rw [decide_eq_true z] at this
      cases this
end DWX
end PySem

set_option Elab.async false
set_option linter.all false
set_option maxRecDepth 100000
set_option maxHeartbeats 4000000
/-! DW18: the Hook of printed laws, and what it tells. -/
namespace DW
open PySem PySem.Spec L2
open PySem.DWX (EF IV iObs errB ISc)
theorem ba {a b : Bool} (h : (a && b) = true) : a = true ∧ b = true := Bool.and_eq_true_iff.mp h
/-! ### constants -/
mutual
def kB (K : PySem.W.Frag) : D → Value → Bool
  | .non, .none => true
  | .bl b, .bool c => b == c
  | .int i, .int j _ => decide (i = j)
  | .str x, .str y _ => decide (x = y)
  | .tup xs, .ref a => (match K.lookup a with
    | some ⟨.type c, _, .seq its _, _⟩ => decide (c = "tuple") && (decide (its.size ≤ sizeLine) && kBA K xs its.toList)
    | _ => false)
  | _, _ => false
def kBA (K : PySem.W.Frag) : List D → List Value → Bool
  | [], [] => true
  | d :: ds, u :: us => kB K d u && kBA K ds us
  | _, _ => false
end
mutual
theorem kB_ok {M : Md} : ∀ (d : D) (u : Value), kB M.K d u = true → ∃ v, RelV v u ∧ ∀ H O L, Rep M H O L v d
  | .non, u, h => by
    cases u <;> first | exact ⟨.non, rfl, fun _ _ _ => .non⟩ | (unfold kB at h; cases h)
  | .bl b, u, h => by
    cases u with
    | bool c =>
      unfold kB at h
      have e : b = c := eq_of_beq h
      subst e
      exact ⟨.bl b, rfl, fun _ _ _ => .bl b⟩
    | _ => unfold kB at h; cases h
  | .int i, u, h => by
    cases u with
    | int j t =>
      unfold kB at h
      have e : i = j := of_decide_eq_true h
      subst e
      exact ⟨.int i, ⟨t, rfl⟩, fun _ _ _ => .int i⟩
    | _ => unfold kB at h; cases h
  | .str x, u, h => by
    cases u with
    | str y t =>
      unfold kB at h
      have e : x = y := of_decide_eq_true h
      subst e
      exact ⟨.str x, ⟨t, rfl⟩, fun _ _ _ => .str x⟩
    | _ => unfold kB at h; cases h
  | .tup xs, u, h => by
    cases u with
    | ref a =>
      unfold kB at h
      split at h
      · rename_i c dd its n sl ho
        obtain ⟨h1, h⟩ := ba h
        obtain ⟨h2, h3⟩ := ba h
        obtain ⟨vs, r1, r2⟩ := kBA_ok xs its.toList h3
        exact ⟨.ref a, rfl, fun H O L => .tupK ⟨_, its, n, ho, congrArg Value.type (of_decide_eq_true h1), rfl, of_decide_eq_true h2, r1⟩ (r2 H O L)⟩
      · cases h
    | _ => unfold kB at h; cases h
  | .lst _, u, h => by unfold kB at h; cases u <;> cases h
  | .dk _, u, h => by unfold kB at h; cases u <;> cases h
  | .dt _, u, h => by unfold kB at h; cases u <;> cases h
  | .fn _, u, h => by unfold kB at h; cases u <;> cases h
  | .ty _, u, h => by unfold kB at h; cases u <;> cases h
  | .scr _, u, h => by unfold kB at h; cases u <;> cases h
  | .cell, u, h => by unfold kB at h; cases u <;> cases h
theorem kBA_ok {M : Md} : ∀ (ds : List D) (us : List Value), kBA M.K ds us = true → ∃ vs, Vals vs us ∧ ∀ H O L, RepA M H O L vs ds
  | [], [], _ => ⟨[], .nil, fun _ _ _ => .nil⟩
  | [], _ :: _, h => by unfold kBA at h; cases h
  | _ :: _, [], h => by unfold kBA at h; cases h
  | d :: ds, u :: us, h => by
    unfold kBA at h
    obtain ⟨h1, h2⟩ := ba h
    obtain ⟨v, a1, a2⟩ := kB_ok d u h1
    obtain ⟨vs, b1, b2⟩ := kBA_ok ds us h2
    exact ⟨v :: vs, .cons a1 b1, fun H O L => .cons (a2 H O L) (b2 H O L)⟩
end
/-! ### what is looked at -/
/-- an error class: its name, its field, the qualified name of its __init__, where that stands -/
structure EQ where
  x : Str
  f : Str
  q : Str
  st : Stmt
structure Fc where
  file : Str
  gl : List Str
  fr : List Str
  cs : List (Str × D)
  es : List EQ
  xs : List (Str × Str × Bool)
  fl : List (List Str × Str)
  is : List (List Str × Str × (Str → Bool))
  /-- tables: name, keys in order, what is told -/
  ts : List (Str × List Str × Tab)
abbrev gB (K : PySem.W.Frag) (x : Str) : Bool := (He.Fa.glo x).ok K
def csB (K : PySem.W.Frag) (c : Str × D) : Bool := match PySem.W.nsIn K mainGlobals c.1 with
  | some (some u) => kB K c.2 u
  | _ => false
def xsB (K : PySem.W.Frag) (t : Str × Str × Bool) : Bool := gB K t.1 && (gB K t.2.1 && decide (PySem.W.exmOne K (.ref (He.ga K t.1)) (.ref (He.ga K t.2.1)) = some t.2.2))
def flB (K : PySem.W.Frag) (f x : Str) : Bool := gB K x && (xfB K (He.ga K x) && He.eqO (PySem.W.findIn K (.ref (He.ga K x)) f) (some none))
def isB (K : PySem.W.Frag) (c : Str) (ans : Str → Bool) (x : Str) : Bool := gB K x && (gB K c && (decide (PySem.W.kitOne K (.ref (He.ga K x)) (.ref (He.ga K c)) = some (ans x)) && ((PySem.W.clsIn K (He.ga K x)).isSome &&
  (He.eqO (PySem.W.findIn K (.ref (He.ga K x)) "__getattribute__") (some (some (.builtin "BaseException.__getattribute__"))) && (He.eqO (PySem.W.findIn K (.ref (He.ga K x)) "__getattr__") (some none) &&
  (decide (PySem.W.subIn K (.ref (He.ga K x)) (.type "BaseException") = some true) && (He.eqO (PySem.W.findIn K (.ref (He.ga K x)) "__class__") (some (some (.builtin "object.__class__"))) &&
  (He.eqO (PySem.W.specialIn K (.builtin "object.__class__") "__get__") (some (some (.builtin "getset_descriptor.__get__"))) && (decide (PySem.W.takesIn K (.builtin "object.__class__") = some true) &&
  decide (PySem.W.mroIn K (He.ga K x) (.type "object") = some true))))))))))
def tbB (K : PySem.W.Frag) (t : Str × List Str × Tab) : Bool := gB K t.1 && t.2.2.all fun q => match PySem.W.nsIn K (He.ga K t.1) q.1, q.2 with
  | some (some u), some d => kB K d u
  | some none, none => true
  | _, _ => false
def Fc.ok (F : Fc) (K : PySem.W.Frag) : Bool := F.gl.all (gB K) && (F.fr.all (fun x => (He.Fa.free x).ok K) && (F.cs.all (csB K) && (F.es.all (fun e => gB K e.x && errB K F.file e.q (e.x, e.f)) && (F.xs.all (xsB K) &&
  (F.fl.all (fun t => t.1.all (flB K t.2)) && (F.is.all (fun t => t.1.all (isB K t.2.1 t.2.2)) && F.ts.all (tbB K)))))))
abbrev AlW : Type := Bool × List He.FnW × List IV × List (Option (List (Option (Str × Int))))
def EQ.val (e : EQ) : IV := some (("__init__" : Str), e.q, defArgs e.st, FuncBody.stmts (defBody e.st), defScope e.st, mainGlobals, builtinsNs)
def obsK (F : Fc) (fn : List He.DefD) (K : PySem.W.Frag) : AlW := (F.ok K && fn.all fun d => d.ok K, fn.map fun d => He.fnW K d.at_, F.es.map fun e => iObs K e.x, F.ts.map fun t => He.dicW K (He.ga K t.1))
def valK (F : Fc) (fn : List He.DefD) (w : World) : AlW := (true, fn.map He.DefD.val, F.es.map EQ.val, F.ts.map fun t => some (He.keysIn w.params t.2.1))
def frN {α : Type} (n : Nat) (k : Nat → α) : α := match n with
  | 0 => k 0
  | m + 1 => k (m + 1)
/-- the new ones of a row of addresses, what was seen as bits of one number -/
def newM (k : List Nat → Nat → List Nat) : List Nat → List Nat → Nat → List Nat
  | [], l, m => frN m fun m => k l.reverse m
  | a :: r, l, m => match Nat.beq (Nat.land (Nat.shiftRight m a) 1) 0 with
    | true => frN (Nat.lor m (Nat.shiftLeft 1 a)) fun m => newM k r (a :: l) m
    | false => newM k r l m
def asM (g : Addr → Option Obj) : Nat → List Nat → Nat → List Nat
  | 0, f, _ => f
  | n + 1, f, m => f ++ newM (fun l m => asM g n l m) (f.flatMap fun a => match g a with
    | some o => He.refsD o
    | none => []) [] m
def frK (n : Nat) (g : Addr → Option Obj) : PySem.W.Frag := He.frG g (cStatics :: asM g n [mainGlobals] (Nat.shiftLeft 1 mainGlobals))
def obsW (n : Nat) (F : Fc) (fn : List He.DefD) (g : Addr → Option Obj) : AlW := obsK F fn (frK n g)
def SaysW (F : Fc) (fn : List He.DefD) (w : World) (K : PySem.W.Frag) : Prop := obsK F fn K = valK F fn w
def hookW (n : Nat) (F : Fc) (fn : List He.DefD) : PySem.W.Hook where
  α := AlW
  obs := fun s => obsW n F fn s.heap.get?
  val := fun w => valK F fn w
  says := fun w h => ∃ K : PySem.W.Frag, K.In h ∧ SaysW F fn w K
  of := fun _ _ e => ⟨_, He.frG_in, e⟩
  keeps := fun _ _ _ ⟨K, hK, c⟩ k => ⟨K, PySem.W.Frag.In.keeps hK k, c⟩
theorem obsW_eq {n : Nat} {F : Fc} {fn : List He.DefD} {g : Addr → Option Obj} {s : Shared} (h : ∀ a, g a = s.heap.get? a) : obsW n F fn g = (hookW n F fn).obs s := by
  have e : g = s.heap.get? := funext h
  rw [e] <;> rfl
/-! ### what it tells -/
section
variable {F : Fc} {fn : List He.DefD} {w : World} {M : Md} {h : Heap}
theorem SaysW.fc (c : SaysW F fn w M.K) : F.ok M.K = true := (ba (show (F.ok M.K && fn.all fun d => d.ok M.K) = true from congrArg (fun z : AlW => z.1) c)).1
theorem SaysW.def_ (c : SaysW F fn w M.K) (i : Nat) {d : He.DefD} (h : fn[i]? = some d := by rfl) : ∃ fd, FunD M.K d.name d.qual d.params d.body d.scope (d.dvs M.K) (d.kws M.K) (He.fAd M.K d.at_) fd := by
  have c2 := (ba (show (F.ok M.K && fn.all fun d => d.ok M.K) = true from congrArg (fun z : AlW => z.1) c)).2
  have e : fn.map (fun d => He.fnW M.K d.at_) = fn.map He.DefD.val := congrArg (fun z : AlW => z.2.1) c
  have e2 : (fn.map fun d => He.fnW M.K d.at_)[i]? = (fn.map He.DefD.val)[i]? := by rw [e]
  rw [List.getElem?_map, List.getElem?_map, h] at e2
  exact He.DefD.funD (Option.some.inj e2) (List.all_eq_true.mp c2 d (List.mem_of_getElem? h))
structure Told (F : Fc) (M : Md) (h : Heap) : Prop where
  X : M.K.In h
  G : h.Ns mainGlobals M.mg
  c : F.ok M.K = true
theorem gB_ok (X : M.K.In h) (G : h.Ns mainGlobals M.mg) {x : Str} (c : gB M.K x = true) : M.mg x = some (.ref (He.ga M.K x)) := He.glo_ok X G c
theorem Told.parts (T : Told F M h) : F.gl.all (gB M.K) = true ∧ F.fr.all (fun x => (He.Fa.free x).ok M.K) = true ∧ F.cs.all (csB M.K) = true ∧ F.es.all (fun e => gB M.K e.x && errB M.K F.file e.q (e.x, e.f)) = true ∧ F.xs.all (xsB M.K) = true ∧
    F.fl.all (fun t => t.1.all (flB M.K t.2)) = true ∧ F.is.all (fun t => t.1.all (isB M.K t.2.1 t.2.2)) = true ∧ F.ts.all (tbB M.K) = true := by
  have c := T.c
  unfold Fc.ok at c
  obtain ⟨c1, c⟩ := ba c
  obtain ⟨c2, c⟩ := ba c
  obtain ⟨c3, c⟩ := ba c
  obtain ⟨c4, c⟩ := ba c
  obtain ⟨c5, c⟩ := ba c
  obtain ⟨c6, c⟩ := ba c
  obtain ⟨c7, c8⟩ := ba c
  exact ⟨c1, c2, c3, c4, c5, c6, c7, c8⟩
theorem Told.glo (T : Told F M h) {x : Str} (hx : x ∈ F.gl) : M.mg x = some (.ref (He.ga M.K x)) := gB_ok T.X T.G (List.all_eq_true.mp T.parts.1 x hx)
theorem Told.free (T : Told F M h) {x : Str} (hx : x ∈ F.fr) : M.mg x = none := He.free_ok T.X T.G (List.all_eq_true.mp T.parts.2.1 x hx)
theorem Told.con (T : Told F M h) (i : Nat) {x : Str} {d : D} (hx : F.cs[i]? = some (x, d) := by rfl) : GlobD M x d := by
  have c := List.all_eq_true.mp T.parts.2.2.1 _ (List.mem_of_getElem? hx)
  unfold csB at c
  split at c
  · rename_i u e
    obtain ⟨v, r1, r2⟩ := kB_ok (M := M) d u c
    exact ⟨v, u, PySem.W.mg_of T.X T.G e, r1, r2⟩
  · cases c
theorem Told.err {P : Program} {fn : List He.DefD} (T : Told F M h) (s : SaysW F fn w M.K) (i : Nat) {e : EQ} (hx : F.es[i]? = some e := by rfl) (S : ISc e.f e.st) (bd : PySem.DWX.BindOk e.f) (hf : F.file = P.main.file) (top : (P.main.scope.names.lookup ("super" : Str)).isSome = false)
    (hs : M.mg "super" = none) : ErrF P M e.x e.f := by
  have c := List.all_eq_true.mp T.parts.2.2.2.1 _ (List.mem_of_getElem? hx)
  obtain ⟨c1, c2⟩ := ba c
  have o : F.es.map (fun e => iObs M.K e.x) = F.es.map EQ.val := congrArg (fun z : AlW => z.2.2.1) s
  have o2 : (F.es.map fun e => iObs M.K e.x)[i]? = (F.es.map EQ.val)[i]? := by rw [o]
  rw [List.getElem?_map, List.getElem?_map, hx] at o2
  rw [hf] at c2
  exact ⟨_, _, _, _, _, PySem.DWX.errTxt_of S bd top (Option.some.inj o2) c2, gB_ok T.X T.G c1, hs⟩
theorem Told.tb (T : Told F M h) : ErrTb M fun x c => (F.xs.find? fun t => decide (t.1 = x) && decide (t.2.1 = c)).map (·.2.2) := by
  refine ⟨fun x c b C1 C2 e h1 h2 => ?_⟩
  obtain ⟨t, e1, e2⟩ := Option.map_eq_some_iff.mp e
  have q := List.find?_some e1
  obtain ⟨q1, q2⟩ := ba q
  have q1 := of_decide_eq_true q1
  have q2 := of_decide_eq_true q2
  have z := List.all_eq_true.mp T.parts.2.2.2.2.1 t (List.mem_of_find?_eq_some e1)
  unfold xsB at z
  obtain ⟨z1, z⟩ := ba z
  obtain ⟨z2, z3⟩ := ba z
  have g1 := gB_ok T.X T.G z1
  have g2 := gB_ok T.X T.G z2
  have z3 := of_decide_eq_true z3
  rw [q1] at g1 z3
  rw [q2] at g2 z3
  rw [h1] at g1
  rw [h2] at g2
  cases g1
  cases g2
  rw [z3, e2]
theorem Told.fld (T : Told F M h) (i : Nat) {cl : List Str} {f : Str} (hx : F.fl[i]? = some (cl, f) := by rfl) : ErrFl M cl f := by
  refine ⟨fun x hm => ?_⟩
  have c := List.all_eq_true.mp T.parts.2.2.2.2.2.1 _ (List.mem_of_getElem? hx)
  have z := List.all_eq_true.mp c x hm
  unfold flB at z
  obtain ⟨z1, z⟩ := ba z
  obtain ⟨z2, z3⟩ := ba z
  exact ⟨_, gB_ok T.X T.G z1, xfB_ok z2, He.eqO_ok z3⟩
theorem Told.isi (T : Told F M h) (i : Nat) {cl : List Str} {c : Str} {ans : Str → Bool} (hx : F.is[i]? = some (cl, c, ans) := by rfl) : ErrIs M cl c ans := by
  refine ⟨fun x hm => ?_⟩
  have z := List.all_eq_true.mp T.parts.2.2.2.2.2.2.1 _ (List.mem_of_getElem? hx)
  have z := List.all_eq_true.mp z x hm
  unfold isB at z
  obtain ⟨z1, z⟩ := ba z
  obtain ⟨z2, z⟩ := ba z
  obtain ⟨z3, z⟩ := ba z
  obtain ⟨z4, z⟩ := ba z
  obtain ⟨z5, z⟩ := ba z
  obtain ⟨z6, z⟩ := ba z
  obtain ⟨z7, z⟩ := ba z
  obtain ⟨z8, z⟩ := ba z
  obtain ⟨z9, z⟩ := ba z
  obtain ⟨z10, z11⟩ := ba z
  exact ⟨_, _, gB_ok T.X T.G z1, gB_ok T.X T.G z2, of_decide_eq_true z3, z4, He.eqO_ok z5, He.eqO_ok z6, of_decide_eq_true z7, He.eqO_ok z8, He.eqO_ok z9, of_decide_eq_true z10, of_decide_eq_true z11⟩
theorem Told.tab (T : Told F M h) (s : SaysW F fn w M.K) (i : Nat) {x : Str} {ks : List Str} {t : Tab} (hx : F.ts[i]? = some (x, ks, t) := by rfl) : TabD M w x t := by
  have z := List.all_eq_true.mp T.parts.2.2.2.2.2.2.2 _ (List.mem_of_getElem? hx)
  unfold tbB at z
  obtain ⟨z1, z2⟩ := ba z
  have o : F.ts.map (fun t => He.dicW M.K (He.ga M.K t.1)) = F.ts.map (fun t => some (He.keysIn w.params t.2.1)) := congrArg (fun z : AlW => z.2.2.2) s
  have o2 : (F.ts.map fun t => He.dicW M.K (He.ga M.K t.1))[i]? = (F.ts.map fun t => some (He.keysIn w.params t.2.1))[i]? := by rw [o]
  rw [List.getElem?_map, List.getElem?_map, hx] at o2
  obtain ⟨es, n, kd⟩ := He.dicW_ok (Option.some.inj o2)
  refine ⟨⟨_, es, n, gB_ok T.X T.G z1, kd, fun q hq => ?_⟩⟩
  have z3 := List.all_eq_true.mp z2 q hq
  obtain ⟨k, o⟩ := q
  dsimp only at z3 ⊢
  cases e : PySem.W.nsIn M.K (He.ga M.K x) k with
  | none => rw [e] at z3; cases o <;> cases z3
  | some r =>
    rw [e] at z3
    cases r with
    | none =>
      cases o with
      | none => rfl
      | some d => cases z3
    | some u =>
      cases o with
      | none => cases z3
      | some d =>
        obtain ⟨v, r1, r2⟩ := kB_ok (M := M) d u z3
        exact ⟨u, v, rfl, r1, r2⟩
end
end DW

set_option Elab.async false
set_option linter.all false
set_option maxRecDepth 100000
set_option maxHeartbeats 4000000
/-! DWY: an own error over ValueError whose __init__ says super().__init__(x, y); self.f = x; self.g = y. -/
namespace L2
theorem lookIn_ns1 {h : PySem.Heap} {a : PySem.Addr} {m : PySem.Str → Option PySem.Value} (n : h.Ns1 a m) : ∃ od, h.get? a = some od ∧ True := by
  obtain ⟨o, es, ep, e, _⟩ := n
  exact ⟨o, e, trivial⟩
end L2
namespace PySem
namespace DWX
open PySem.W PySem.Calls PyProof.Rows PySem.HandSPX
/-! ### self.name = v on an exception that has one attribute -/
section
open PySem.Builtin PySem.Builtin.ObjectAttr
variable {prog : Program} {w : World} {A : Around} {E : Value → Shared → Prop} {R : Result → Shared → Prop} {hp : Heap} {g : Array GenState} {d : Drawn} {t : Nat} {os : OsState}
theorem store_in_one {M : Model} {dx : Addr} {a name : Str} {tk : Tok} {u v : Value} {Q : Fin → Shared → Prop} (hnd : hp.Ns1 dx (fun y => if y = a then some u else none))
    (hq : ∀ h' tk', h'.Ns1 dx (fun y => if y = name then some v else if y = a then some u else none) → Heap.SameBut dx hp h' → Q (.done (.ret .none)) ⟨h', g, d, tk', os⟩) :
    wpAny M A (storeInDict dx (.str name tk) name v) Q E ⟨hp, g, d, t, os⟩ := by
  unfold storeInDict newKeyGuard
  refine wpAny_bind (wpAny_pure (wpAny_bind (wpAny_nsSet1 hnd fun h' hn' hs => ?_)))
  obtain ⟨oD, esD, epD, hoD, hdD, hcD⟩ := hn'.count (Within.cons name v (Within.cons a u Within.nil))
  refine wpAny_bind (wpAny_lookBehind hoD (by rw [hdD]; exact pastItsLine_dict (Nat.le_trans hcD (by rw [List.length_cons, List.length_cons, List.length_nil, sizeLine_eq]; omega))) ?_)
  wp_walk
  exact hq h' _ hn' hs
theorem exc_osa2 {K : W.Frag} {a name : Str} {tk : Tok} {u v : Value} {x C dx : Addr} {fv : Array Value} {cd : ClassData}
    (X : K.In hp) (hx : hp.get? x = some { cls := .ref C, dict := some dx, data := .fields fv }) (hnd : hp.Ns1 dx (fun y => if y = a then some u else none)) (hdx : dx ≠ x) (hcd : W.clsIn K C = some cd) (hm : refsVE cd.mro = true) (hh : cd.hasDict = true) (ha : W.findIn K (.ref C) name = some none)
    (hq : ∀ h' tk', (∀ b o, b ≠ dx → hp.get? b = some o → h'.get? b = some o) → h'.Ns1 dx (fun y => if y = name then some v else if y = a then some u else none) → R (.ok (.ret .none)) ⟨h', g, d, tk', os⟩) :
    codeAny (model prog w) A (.call (.builtin "object.__setattr__") ⟨[.ref x, .str name tk, v], []⟩) R ⟨hp, g, d, t, os⟩ := by
  obtain ⟨od, ho, _⟩ := L2.lookIn_ns1 hnd
  have I : W.InstAt hp x { cls := .ref C, dict := some dx, data := .fields fv } C (some od) := ⟨hx, rfl, rfl, ho⟩
  have SF := F.store_object
  have ne := refsVE_ne hm
  have hob : cd.mro.contains (.type "object") = true := (refsVE_contains "object" _ hm).trans (by decide +kernel)
  have sub : W.Looks (model prog w) hp (isInstance (.ref x) (.type "object")) true := I.type.andThen (W.looks_mroIn X (by unfold W.mroIn; rw [hcd, Option.bind_some, if_neg (by rw [ne]; decide), hob]))
  refine codeAny_call_builtin SF.slot.plain SF.entry (@W.check_slot (model prog w) _ _ ⟨hp, g, d, t, os⟩ "object.__setattr__" "object" "__setattr__" (.ref x) [.str name tk, v] [] _ SF.kind SF.split sub (SF.args (.ref x) (.str name tk) v) ?_)
  have hmr : W.Looks (model prog w) hp (mroOf (.ref C)) cd.mro := (W.looks_clsIn X hcd).andThen .now
  have L3 : W.Looks (model prog w) hp (storeTaker? none) none := .now
  have hcls : W.Looks (model prog w) hp (classData C) cd := W.looks_clsIn X hcd
  rw [W.osa_eq, refuse_eq]
  refine wpAny_bind (wpAny_bind (I.type.at (wpAny_bind (hmr.at ?_))))
  rw [refsVE_pass _ _ hm]
  refine wpAny_pure (wpAny_bind (I.type.at (wpAny_bind ((W.looks_findIn X ha).at (wpAny_bind (L3.at ?_))))))
  show wpAny _ _ (storeInOwnDict (.ref x) (.ref C) (.str name tk) name v false) _ _ _
  obtain ⟨nm, bs, mro, ns, qn, hd, sn, sb, ab, col, del⟩ := cd
  dsimp only at hh
  subst hh
  unfold storeInOwnDict ownDictForStores
  repeat (first | with_reducible refine store_in_one hnd ?_ | with_reducible refine wpAny_loadPart_at hx ?_ | with_reducible refine hcls.at ?_ | wp_step)
  intro h' tk' hn' hs
  exact hq h' tk' (fun b o hb ho => (hs.2 b hb).trans ho) hn'
end
/-! ### the text of __init__ -/
def iA2 (p r : Str) (p1 p2 p3 : Pos) : Arguments := { posonlyargs := [], args := [{ arg := "self", annotation := none, pos := p1 }, { arg := p, annotation := none, pos := p2 }, { arg := r, annotation := none, pos := p3 }], vararg := none, kwonlyargs := [], kw_defaults := [], kwarg := none, defaults := [] }
def iB2 (p r : Str) (q0 q1 q2 q3 q4 q5 q6 q7 q8 q9 q10 q11 q12 q13 q14 : Pos) : List Stmt :=
  [.Expr (.Call (.Attribute (.Call (.Name "super" q0) [] [] q1) "__init__" q2) [.Name p q3, .Name r q10] [] q4) q5, .Assign [.Attribute (.Name "self" q6) p q7] (.Name p q8) q9, .Assign [.Attribute (.Name "self" q11) r q12] (.Name r q13) q14]
/-- what the written part says of the error's class, at C, and of the __init__ that it has, at fI (of the class at Dc) -/
structure ErrTxt2 (prog : Program) (K : Frag) (C Dc fI cc cda : Addr) (p r : Str) : Prop where
  cls : ∃ nm q N bs bm sn sub ab col dd k0 k1 k2 k3 k5, K.lookup C = some (excClassObj nm q C N bs bm true sn sub ab col dd k0 k1 k2 k3 k5 "ValueError.__new__") ∧ refsVE bm = true
  sa : findIn K (.ref C) "__setattr__" = some (some (.builtin "object.__setattr__"))
  noN : findIn K (.ref C) p = some none
  noR : findIn K (.ref C) r = some none
  npr : r ≠ p
  iC : findIn K (.ref C) "__init__" = some (some (.ref fI))
  tC : typeIn K (.ref fI) = some (.type "function")
  kC : keepIn K (.ref C) = true
  exC : subIn K (.ref C) (.type "BaseException") = some true
  tyC : typeIn K (.ref C) = some (.type "type")
  hm : ks_superIn K C Dc "__init__" = some (some (.builtin "ValueError.__init__"))
  hB : subIn K (.ref C) (.type "ValueError") = some true
  ho : nsIn K cStatics "thirdparty.any" = some none
  hD : ∃ cdD, clsIn K Dc = some cdD
  hsub : mroIn K C (.ref Dc) = some true
  cell : ∃ cl cld csl, K.lookup cc = some ⟨cl, cld, .cell (some (.ref Dc)), csl⟩
  code : ∃ ccl cdd vs ccs file tf, K.lookup cda = some ⟨ccl, cdd, .fields vs, ccs⟩ ∧ vs[2]? = some (.str file tf) ∧ ((prog.main.file : Str) == file) = true
  top : (prog.main.scope.names.lookup ("super" : Str)).isSome = false
  fn : ∃ (oc : Value) (od : Option Addr) (qual : Str) (sc : Scope) (doc pm : Value) (an : Option Addr) (ct : Value) (osl : Array (Option Value)) (p1 p2 p3 q0 q1 q2 q3 q4 q5 q6 q7 q8 q9 q10 q11 q12 q13 q14 : Pos),
    K.lookup fI = some ⟨oc, od, .func (ksFn "__init__" qual (iA2 p r p1 p2 p3) (iB2 p r q0 q1 q2 q3 q4 q5 q6 q7 q8 q9 q10 q11 q12 q13 q14) sc .none .none doc pm an (.ref cda) ct cc), osl⟩ ∧ codeIn K (.ref cda) qual = true ∧
    sc.kind = .function ∧ sc.isCoroutine = false ∧ sc.isGenerator = false ∧ (∀ x ∈ sc.names, x.2 ≠ .cell) ∧ sc.names.lookup ("super" : Str) = some .globalImplicit ∧ sc.names.lookup ("__class__" : Str) = some .free ∧
    sc.names.lookup ("self" : Str) = some .local ∧ sc.names.lookup p = some .local ∧ p ≠ "self" ∧ (p == ("__debug__" : Str)) = false ∧
    sc.names.lookup r = some .local ∧ r ≠ "self" ∧ r ≠ p ∧ (r == ("__debug__" : Str)) = false ∧
    (∀ x v v2 : Value, bindArgs (ksFn "__init__" qual (iA2 p r p1 p2 p3) (iB2 p r q0 q1 q2 q3 q4 q5 q6 q7 q8 q9 q10 q11 q12 q13 q14) sc .none .none doc pm an (.ref cda) ct cc) { pos := [x, v, v2] } = pure [(("self" : Str), x), (p, v), (r, v2)]) ∧
    ∀ env : Env, ∃ pl : Sem Bool, eval (.Call (.Attribute (.Call (.Name "super" q0) [] [] q1) "__init__" q2) [.Name p q3, .Name r q10] [] q4) env = (do
      let ov ← attributeBase (.Call (.Name "super" q0) [] [] q1) "__init__" env (eval (.Call (.Name "super" q0) [] [] q1) env)
      standAt q2.atName
      let (f, first) ← holding [ov] (getMethod ov "__init__" pl)
      callWith q4 f first (backTo q4 (starEach [.Name p q3, .Name r q10] env)) [])
section
variable {prog : Program} {w : World} {A : Around} {E : Value → Shared → Prop} {R : Result → Shared → Prop} {s : Shared} {K : Frag} {mg : Str → Option Value} {C Dc fI cc cda : Addr} {p : Str}
/-- what __init__ leaves of a fresh exception at x -/
structure InitEnd2 (h h' : Heap) (x C dx t1 : Addr) (p r : Str) (v v2 : Value) : Prop where
  keep : ∀ b o, b ≠ x → h.get? b = some o → h'.get? b = some o
  obj : h'.get? x = some { cls := .ref C, dict := some dx, data := .fields #[.ref t1, .none, .none, .none, .bool false, .none] }
  dbig : h.objs.size ≤ dx
  dne : dx ≠ x
  ns : h'.Ns1 dx (fun y => if y = r then some v2 else if y = p then some v else none)
theorem err_init2 {r : Str} (T : ErrTxt2 prog K C Dc fI cc cda p r) {x t0 : Addr} {v v2 : Value} (X : K.In s.heap) (hlim : s.heap.NoLimit) (hG : s.heap.Ns mainGlobals mg) (hsu : mg "super" = none)
    (hbt : ∃ mb, s.heap.Ns builtinsNs mb ∧ mb "super" = some (.type "super")) (hx : s.heap.get? x = some (excO C t0)) (hnx : K.lookup x = none) (hroom : A.depth < recursionLimit)
    (hq : ∀ h' tk dx t1, InitEnd2 s.heap h' x C dx t1 p r v v2 → R (.ok (.ret .none)) { s with heap := h', toks := tk }) :
    codeAny (model prog w) A (.call (.ref fI) ⟨[.ref x, v, v2], []⟩) R s := by
  obtain ⟨oc, od, qual, sc, doc, pm, an, ct, osl, p1, p2, p3, q0, q1, q2, q3, q4, q5, q6, q7, q8, q9, q10, q11, q12, q13, q14, hof, hcd, hk, hco, hgen, hcell, hls, hlc, hlx, hlp, hne, hdb, hlr, hner, hnpr, hdbr, hbind, he⟩ := T.fn
  obtain ⟨nm, q, N, bs, bm, sn, sub, ab, col, dd, k0, k1, k2, k3, k5, hC, hbm⟩ := T.cls
  have hcl : clsIn K C = some { name := nm, bases := bs, mro := .ref C :: bm, ns := N, qualname := q, hasDict := true, slotNames := sn, subclasses := sub, abstract := ab, collection := col, hasDel := false } := by unfold clsIn; rw [hC] <;> rfl
  refine ks_codeAny_call_defAt (fd := ksFn "__init__" qual (iA2 p r p1 p2 p3) (iB2 p r q0 q1 q2 q3 q4 q5 q6 q7 q8 q9 q10 q11 q12 q13 q14) sc .none .none doc pm an (.ref cda) ct cc) (body := iB2 p r q0 q1 q2 q3 q4 q5 q6 q7 q8 q9 q10 q11 q12 q13 q14) (binds := [("self", .ref x), (p, v), (r, v2)])
    hroom (X _ _ hof) rfl hlim (codeRec_of X hcd) rfl (BindsTo.of_eq (hbind _ _ _)) hcell (fun y hy => ?_) (fun h₁ hns k => ?_) hco hgen hk
  · rcases List.mem_cons.mp hy with rfl | hy
    · exact hlx
    · rcases List.mem_cons.mp hy with rfl | hy
      · exact hlp
      · rcases List.mem_cons.mp hy with rfl | hy
        · exact hlr
        · cases hy
  have X₁ : K.In h₁ := X.keeps k
  have hx₁ := k _ _ hx
  have hvx : (([(("self" : Str), Value.ref x), (p, v), (r, v2)] : List (Str × Value)).reverse).lookup ("self" : Str) = some (.ref x) := by
    have e : (("self" : Str) == p) = false := by simpa using fun z => hne z.symm
    have e2 : (("self" : Str) == r) = false := by simpa using fun z => hner z.symm
    show List.lookup ("self" : Str) [(r, v2), (p, v), (("self" : Str), Value.ref x)] = _
    rw [List.lookup_cons, e2, List.lookup_cons, e]
    simp [List.lookup]
  have hvp : (([(("self" : Str), Value.ref x), (p, v), (r, v2)] : List (Str × Value)).reverse).lookup p = some v := by
    have e2 : (p == r) = false := by simpa using fun z => hnpr z.symm
    show List.lookup p [(r, v2), (p, v), (("self" : Str), Value.ref x)] = _
    rw [List.lookup_cons, e2]
    simp [List.lookup]
  have hvr : (([(("self" : Str), Value.ref x), (p, v), (r, v2)] : List (Str × Value)).reverse).lookup r = some v2 := by
    show List.lookup r [(r, v2), (p, v), (("self" : Str), Value.ref x)] = _
    simp [List.lookup]
  have xL : x < s.heap.objs.size := Heap.lt_size hx
  obtain ⟨cdD, hD⟩ := T.hD
  obtain ⟨oD, hD1, hD2⟩ : ∃ oD, h₁.get? Dc = some oD ∧ oD.data = .cls cdD := by
    unfold clsIn at hD
    split at hD
    · rename_i c d cd' sl ho
      cases hD
      exact ⟨_, X₁ _ _ ho, rfl⟩
    · cases hD
  obtain ⟨cl, cld, csl, hcell'⟩ := T.cell
  obtain ⟨ccl, cdd, vs, ccs, file, tf, hcode, hvs, hfile⟩ := T.code
  obtain ⟨mb, hB1, hB2⟩ := hbt
  have I₁ : InstAt h₁ x (excO C t0) C none := ⟨hx₁, rfl, rfl, trivial⟩
  obtain ⟨hp, g, d, tk, os⟩ := s
  show _root_.PySem.wpAt (model prog w) (A.deeper (ksEnv qual sc hp.objs.size fI (.ref cda) cc)) (.func (iB2 p r q0 q1 q2 q3 q4 q5 q6 q7 q8 q9 q10 q11 q12 q13 q14) (ksEnv qual sc hp.objs.size fI (.ref cda) cc)) (execs (iB2 p r q0 q1 q2 q3 q4 q5 q6 q7 q8 q9 q10 q11 q12 q13 q14) (ksEnv qual sc hp.objs.size fI (.ref cda) cc)) _ _ ⟨h₁, g, d, _, os⟩
  obtain ⟨pl, he⟩ := he (ksEnv qual sc hp.objs.size fI (.ref cda) cc)
  have hint : interactive (ksEnv qual sc hp.objs.size fI (.ref cda) cc) = false := by
    unfold interactive
    show (sc.kind == .module && _) = false
    rw [hk]
    rfl
  refine ks_wpAt_execs_cons (ks_wpAt_Expr_any (ks_wpAt_MethodCall ?_ he) hint)
  refine ks_wpAt_super_base (env := ksEnv qual sc hp.objs.size fI (.ref cda) cc) hls hlc (by decide) rfl (X₁ _ _ hof) rfl rfl rfl (X₁ _ _ hcode) rfl hvs hfile T.top ?_
  refine ks_loadName_global hk hls (loadGlobal_builtin (env := ksEnv qual sc hp.objs.size fI (.ref cda) cc) (hG.keeps k) hsu (hB1.keeps k) hB2 ⟨rfl, ?_⟩)
  refine wpAny_loadName_free hk hlc rfl ⟨_, X₁ _ _ hcell', rfl⟩ ?_
  refine wpAny_loadName_local hk hlx hns hvx ?_
  refine ks_wpAny_isType_cls hD1 hD2 ⟨rfl, ?_⟩
  refine ks_wpAny_call_super hD1 hD2 I₁.at_ I₁.cls (fun c e => ?_) (looks_mroIn X₁ T.hsub) (fun h₂ e₂ k₂ => ?_)
  · have z : (excO C t0).data = .cls c := e
    cases z
  have X₂ : K.In h₂ := X₁.keeps k₂
  have hx₂ := k₂ _ _ hx₁
  have I₂ : InstAt h₂ x (excO C t0) C none := ⟨hx₂, rfl, rfl, trivial⟩
  have hI : Looks (model prog w) h₂ (isInstance (.ref x) (.type "ValueError")) true := I₂.type.andThen (looks_subIn X₂ T.hB)
  have hm := T.hm
  unfold ks_superIn at hm
  rw [hcl] at hm
  refine kxs_getMethod kxs_ValueError e₂ (looks_opaque X₂ T.ho) (l₀ := .ref C :: bm) (fun A Q E s k q => wpAny_bind ((looks_clsIn X₂ hcl) A _ E s k (wpAny_pure q))) rfl X₂ hm hI (ks_ne X₂ I₂ hcl) (by decide) ?_
  -- super().__init__ is the wrapper; it is called
  have hu : (h₂.push (kxs_mw "ValueError.__init__" x)).get? h₂.objs.size = some (kxs_mw "ValueError.__init__" x) := Heap.get?_push_size _ rfl
  have k₃ : ∀ b o, h₂.get? b = some o → (h₂.push (kxs_mw "ValueError.__init__" x)).get? b = some o := fun b o e => Heap.get?_push_of_some _ e
  have hL₃ : (h₂.push (kxs_mw "ValueError.__init__" x)).Ns hp.objs.size (fun y => (([(("self" : Str), Value.ref x), (p, v), (r, v2)] : List (Str × Value)).reverse).lookup y) := (hns.keeps k₂).keeps k₃
  dsimp only
  refine kxs_callWith (i := "ValueError.__init__") (x := x) rfl ?_
  refine evalArgs_plain ?_
  refine spliced_cons (LdN hL₃ hvp (spliced_cons (LdN hL₃ hvr (spliced_nil ⟨hu, ?_⟩) hk hlr hdbr)) hk hlp hdb)
  have X₃ : K.In (h₂.push (kxs_mw "ValueError.__init__" x)) := X₂.keeps k₃
  refine call_bw (rest := [v, v2]) (X₃ _ _ hC) (k₃ _ _ hx₂) hu (by rw [sizeLine_eq]; exact (by decide : 2 ≤ 16777216)) fun h₄ t1 k₄ hx₄ => ?_
  have xn : x ≠ hp.objs.size := Nat.ne_of_lt xL
  have L4 : hp.objs.size ≠ x := fun z => xn z.symm
  have hL₄ : h₄.Ns hp.objs.size (fun y => (([(("self" : Str), Value.ref x), (p, v), (r, v2)] : List (Str × Value)).reverse).lookup y) := hL₃.at fun o e => k₄ _ _ L4 e
  have keep14 : ∀ b o, b ≠ x → hp.get? b = some o → h₄.get? b = some o := fun b o hb e => k₄ b o hb (k₃ b o (k₂ b o (k b o e)))
  have X₄ : K.In h₄ := fun a o e => k₄ a o (fun z => by rw [z, hnx] at e; cases e) (X₃ a o e)
  -- self.p = p
  refine wpAt_of_wpAny (wpAny_execs_cons (plainObj_wpAny_Assign_Attribute ?_))
  refine LdN hL₄ hvp (LdN hL₄ hvx ?_ hk hlx (by decide)) hk hlp hdb
  refine set_plain X₄ (ox := excO C t1) (od := none) ⟨hx₄, rfl, rfl, trivial⟩ T.sa ?_
  refine exc_osa X₄ hx₄ hcl (show refsVE (.ref C :: bm) = true from hbm) rfl T.noN (fun h₅ tk₅ dx k₅ dn dne hx₅ hn₅ => ?_)
  have X₅ : K.In h₅ := fun a o e => k₅ a o (fun z => by rw [z, hnx] at e; cases e) (X₄ a o e)
  have hL₅ : h₅.Ns hp.objs.size (fun y => (([(("self" : Str), Value.ref x), (p, v), (r, v2)] : List (Str × Value)).reverse).lookup y) := hL₄.at fun o e => k₅ _ _ L4 e
  have big : hp.objs.size + 1 ≤ h₄.objs.size := hL₄.lt
  refine wpAny_execs_cons (plainObj_wpAny_Assign_Attribute ?_)
  refine LdN hL₅ hvr (LdN hL₅ hvx ?_ hk hlx (by decide)) hk hlr hdbr
  obtain ⟨od₅, ho₅, _⟩ := L2.lookIn_ns1 hn₅
  refine set_plain X₅ (ox := { cls := .ref C, dict := some dx, data := .fields #[.ref t1, .none, .none, .none, .bool false, .none] }) (od := some od₅) ⟨hx₅, rfl, rfl, ho₅⟩ T.sa ?_
  refine exc_osa2 X₅ hx₅ hn₅ dne hcl (show refsVE (.ref C :: bm) = true from hbm) rfl T.noR (fun h₆ tk₆ k₆ hn₆ => ?_)
  have dn' : h₄.objs.size ≤ dx := dn
  exact wpAny_execs_nil (hq h₆ tk₆ dx t1 ⟨fun b o hb e => k₆ b o (Nat.ne_of_lt (Nat.lt_of_lt_of_le (Heap.lt_size e) (Nat.le_trans (Nat.le_of_succ_le big) dn'))) (k₅ b o hb (keep14 b o hb e)), k₆ x _ dne.symm hx₅, Nat.le_trans (Nat.le_of_succ_le big) dn', dne, hn₆⟩)
/-- a made error -/
structure OwnMade2 (h h' : Heap) (e C d : Addr) (p r : Str) (v v2 : Value) : Prop where
  keep : ∀ b o, h.get? b = some o → h'.get? b = some o
  new : h.objs.size ≤ e
  obj : ∃ oe vs, h'.get? e = some oe ∧ oe.cls = .ref C ∧ oe.dict = some d ∧ oe.data = .fields vs ∧ vs[1]? = some .none
  dbig : h.objs.size ≤ d
  dne : d ≠ e
  ns : h'.Ns1 d (fun y => if y = r then some v2 else if y = p then some v else none)
theorem err_made2 {r : Str} (T : ErrTxt2 prog K C Dc fI cc cda p r) {v v2 : Value} (X : K.In s.heap) (hlim : s.heap.NoLimit) (hG : s.heap.Ns mainGlobals mg) (hsu : mg "super" = none)
    (hbt : ∃ mb, s.heap.Ns builtinsNs mb ∧ mb "super" = some (.type "super")) (hroom : A.depth + 1 < recursionLimit)
    (hq : ∀ h' tk e d, OwnMade2 s.heap h' e C d p r v v2 → R (.ok (.ret (.ref e))) { s with heap := h', toks := tk }) :
    codeAny (model prog w) A (.call (.ref C) ⟨[v, v2], []⟩) R s := by
  obtain ⟨nm, q, N, bs, bm, sn, sub, ab, col, dd, k0, k1, k2, k3, k5, hC, hbm⟩ := T.cls
  obtain ⟨hp, g, dr, tk, os⟩ := s
  have k : ∀ b o, hp.get? b = some o → ((hp.push (kdv_tup [v, v2])).push (excO C hp.objs.size)).get? b = some o := fun b o e => Heap.get?_push_of_some _ (Heap.get?_push_of_some _ e)
  have hget : ((hp.push (kdv_tup [v, v2])).push (excO C hp.objs.size)).get? (hp.objs.size + 1) = some (excO C hp.objs.size) := by heap_get
  have hnx : K.lookup (hp.objs.size + 1) = none := by
    cases e : K.lookup (hp.objs.size + 1) with
    | none => rfl
    | some o =>
      have z : hp.get? (hp.objs.size + 1) = some o := X _ _ e
      exact absurd (Nat.lt_of_succ_lt (Heap.lt_size z)) (Nat.lt_irrefl _)
  obtain ⟨mb, hb1, hb2⟩ := hbt
  refine call_own F.excBase_ValueError (fun X => refsVE_contains X bm hbm) (X _ _ hC) (looks_findIn X T.iC) (fun self => bind_fn X self T.tC) (by rw [sizeLine_eq]; exact (by decide : 2 ≤ 16777216)) ?_
  refine err_init2 (s := ⟨(hp.push (kdv_tup [v, v2])).push (excO C hp.objs.size), g, dr, tk, os⟩) T (X.keeps k) (hlim.keeps k) (hG.keeps k) hsu ⟨mb, hb1.keeps k, hb2⟩ hget hnx ?_ fun h' tk' dx t1 ⟨k', hx, dn, dne, hns⟩ => ?_
  · show A.depth + 1 < recursionLimit
    exact hroom
  · have old : ∀ b o, hp.get? b = some o → h'.get? b = some o := fun b o e => k' b o (Nat.ne_of_lt (Nat.lt_succ_of_lt (Heap.lt_size e))) (k b o e)
    have z : hp.objs.size + 1 + 1 ≤ dx := by
      first
        | (simpa only [Heap.size_push] using dn)
        | exact dn
        | (have q := dn; rw [Heap.size_push, Heap.size_push] at q; exact q)
    exact ⟨rfl, hq h' tk' (hp.objs.size + 1) dx ⟨old, Nat.le_succ _, ⟨_, _, hx, rfl, rfl, rfl, rfl⟩, Nat.le_trans (Nat.le_trans (Nat.le_succ _) (Nat.le_succ _)) z, dne, hns⟩⟩
end
end DWX
end PySem

set_option Elab.async false
set_option linter.all false
set_option maxRecDepth 100000
set_option maxHeartbeats 4000000
/-! DWY2: errors of two fields: raised; told by the head. -/
namespace DW
open PySem PySem.Spec L2
def tMkErr2 (C : Addr) (f g : Str) (ta : TA) : St → Hp → XK → Prop := fun σ H Q => ta σ H fun vs H1 => ∃ v v2, vs = [v, v2] ∧ ∀ d, H1 d = none → Q (.ref C) (some d) (upd H1 d (.xd [(f, v), (g, v2)]))
theorem relO_two {p r : Str} {v v2 : V} {u u2 : Value} (n : r ≠ p) (h : RelV v u) (h2 : RelV v2 u2) (f : Str) : RelO (List.lookup f [(p, v), (r, v2)]) (if f = r then some u2 else if f = p then some u else none) := by
  by_cases hr : f = r
  · subst hr
    rw [if_pos rfl]
    have q : List.lookup f [(p, v), (f, v2)] = some v2 := by
      have e : (f == p) = false := by simpa using n
      simp [List.lookup, e]
    rw [q]
    exact h2
  · rw [if_neg hr]
    by_cases hp : f = p
    · subst hp
      rw [if_pos rfl]
      have q : List.lookup f [(f, v), (r, v2)] = some v := by simp [List.lookup]
      rw [q]
      exact h
    · rw [if_neg hp]
      have q1 : (f == p) = false := by simpa using hp
      have q2 : (f == r) = false := by simpa using hr
      have q : List.lookup f [(p, v), (r, v2)] = none := by simp [List.lookup, q1, q2]
      rw [q]
      trivial
theorem pmk_err2 {X : Cx} {C Dc fI cc cda : Addr} {f g x : Str} {a b : Expr} {ta : TA} {p pos : Pos} {k : Nat} (T : PySem.DWX.ErrTxt2 X.prog X.K C Dc fI cc cda f g) (hC : X.mg x = some (.ref C)) (hsu : X.mg "super" = none) (hr : Room k X.A) (ha : PA X [a, b] ta) (hg : Gl X x) (hd : (x == ("__debug__" : Str)) = false)
    (he : starEach (a :: [b]) X.env = (false, eval a X.env) :: starEach [b] X.env := by rfl) (hpl : (backTo pos (starEach [b] X.env)).any (·.1) = false := by rfl) :
    PMk X (.Call (.Name x p) [a, b] [] pos) (tMkErr2 C f g ta) := by
  intro pins s σ H Q I h
  refine wpAny_Call_Name_kw (ld_glob I hg hC ?_ hd)
  refine PySem.W.callWith_K (h₀ := X.base) I.ok.mod.kin T.kC (thn (ha.run pos pins s σ H _ I h) fun us s1 hh => ?_) he hpl
  obtain ⟨vs, H1, I1, r1, v, v2, ev, q1⟩ := hh
  subst ev
  refine ⟨I1.kIn, ?_⟩
  cases r1 with
  | cons rv rn =>
    rename_i v' us'
    cases rn with
    | cons rv2 rn =>
    rename_i v2' us2
    cases rn
    show wpAny _ _ (call (.ref C) [v', v2']) _ _ _
    have hlim := I1.nolimit
    have hG : s1.heap.Ns mainGlobals X.mg := I1.ok.mod.glob.keeps I1.bk
    obtain ⟨mb, hb1, hb2⟩ := I1.ok.mod.blt
    have hB := hb1.keeps I1.bk
    have kin := I1.kIn
    obtain ⟨hp, gn, dr, tk, os⟩ := s1
    refine wpAny_call (PySem.DWX.err_made2 T kin hlim hG hsu ⟨mb, hB, (hb2 _ (by decide)).trans boot_super⟩ (by have := hr.dp; omega) fun h' tk' e d M => ?_)
    show MkP X pins σ Q (.ref e) ⟨h', gn, dr, tk', os⟩
    obtain ⟨oe, fv, hoe, hc, hd, hdat, h1⟩ := M.obj
    have hns := M.ns
    obtain ⟨G', g1, g2⟩ := restrict h' fun b => decide (b ≠ e)
    have gk : ∀ b, b ≠ e → G'.get? b = h'.get? b := fun b hb => g1 b (decide_eq_true hb)
    have ge : G'.get? e = none := g2 e (by simp)
    have old : ∀ b o, hp.get? b = some o → G'.get? b = some o := fun b o q => (gk b (Nat.ne_of_lt (Nat.lt_of_lt_of_le (Heap.lt_size q) M.new))).trans (M.keep b o q)
    have ob : ObjOk X.prog X.w (upd H1 d (.xd [(f, v), (g, v2)])) G' d (.xd [(f, v), (g, v2)]) :=
      ⟨_, hns.at (fun o q => (gk d M.dne).trans q), fun y => relO_two T.npr rv rv2 y⟩
    have J : L2.Inv X pins σ (upd H1 d (.xd [(f, v), (g, v2)])) ⟨G', gn, dr, tk', os⟩ := I1.laid (t' := tk') old M.dbig ob
    refine ⟨e, oe, fv, ⟨G', gn, dr, tk', os⟩, _, .ref C, some d, rfl, J, fun b o q => ?_, ge, hoe, ⟨hc, hd⟩, hdat, h1, ?_, rfl, I1.bare, raises_own T.exC T.tyC, q1 d (I1.hok.fresh M.dbig)⟩
    · by_cases hb : b = e
      · have q' : G'.get? b = some o := q
        rw [hb, ge] at q'; cases q'
      · exact (gk b hb).symm.trans q
    · rw [upd_ne (Ne.symm M.dne)]
      exact I1.hok.fresh M.new
def ErrOk2 (X : Cx) (x f g : Str) : Prop := ∃ (k : Nat) (C Dc fI cc cda : Addr), PySem.DWX.ErrTxt2 X.prog X.K C Dc fI cc cda f g ∧ X.mg x = some (.ref C) ∧ X.mg "super" = none ∧ Room k X.A
theorem ErrOk2.in {X : Cx} {x f g : Str} {scope : Scope} (C : ErrOk2 X x f g) (s : Shared) (H : Hp) (L : Addr) (cl : List (Str × Addr)) (fp : List Addr) : ErrOk2 (X.blk s H scope (compEnvC scope cl L X.env) fp) x f g := C
theorem ErrOk2.tr {X : Cx} {x f g : Str} (C : ErrOk2 X x f g) (pn : List (Addr × Obj)) (xe : Value → Shared → Prop) : ErrOk2 (X.tr pn xe) x f g := C
def ErrF2 (P : Program) (M : Md) (x f g : Str) : Prop := ∃ C Dc fI cc cda, PySem.DWX.ErrTxt2 P M.K C Dc fI cc cda f g ∧ M.mg x = some (.ref C) ∧ M.mg "super" = none
theorem Zb.err2 {Fx : Program → World → Md → Prop} {X : Cx} {x f g : Str} (z : Zb Fx X) (h : ErrF2 X.prog X.md x f g) : ErrOk2 X x f g := by
  obtain ⟨k, hk⟩ := z.rm
  obtain ⟨C, Dc, fI, cc, cda, h1, h2, h3⟩ := h
  exact ⟨k, C, Dc, fI, cc, cda, h1, h2, h3, hk⟩
def sRaise2 (x f g : Str) (e e2 : E) : SF := fun ev c => (e ev c).toS ev fun d c => (e2 ev c).toS ev fun d2 c => .exc ⟨x, [(f, d), (g, d2)]⟩ ev c
section
variable {X : Cx} {xo : Xo} {lo : Bool} {B : Blk} {x f g : Str} {a b : Expr} {fa fb : E} {p pos pos2 : Pos}
theorem ScX.raise2 (S : ScX X B) (T : ErrOk2 X x f g) (h : B.gl x = true) (ha : DE X xo a fa) (hb : DE X xo b fb) (he : starEach (a :: [b]) X.env = (false, eval a X.env) :: starEach [b] X.env := by rfl) (he2 : starEach (b :: []) X.env = (false, eval b X.env) :: starEach [] X.env := by rfl) (hpl : (backTo pos (starEach [b] X.env)).any (·.1) = false := by rfl) :
    DS X xo lo (.Raise (some (.Call (.Name x p) [a, b] [] pos)) none pos2) (sRaise2 x f g fa fb) := fun W hW => by
  obtain ⟨k, C, Dc, fI, cc, cda, T, hC, hsu, hr⟩ := T
  obtain ⟨hg, hd⟩ := S.gl h
  unfold cDbg at hd
  simp only [Bool.and_eq_true, Bool.not_eq_true'] at hd
  refine PSimp (ps_raise S.calm hW (pmk_err2 T hC hsu hr (pa_cons (ha W hW) (pa_cons (hb W hW) pa_nil he2) he) hg hd.1.1 he hpl)) fun D' σ H h => ?_
  obtain ⟨G, ev, c, k0, hx, h⟩ := h
  refine tG.mk k0 hx (PostS.bind k0 h fun d c1 v H1 s1 k1 g1 r1 h1 => tG.mk g1 hx (PostS.bind g1 h1 fun d2 c2 v2 H2 s2 k2 g2 r2 h2 => ⟨v, v2, rfl, fun dd nd => ?_⟩))
  have sm := same_updN (o := .xd [(f, v), (g, v2)]) nd
  have g3 := g2.same sm
  refine h2 _ _ σ _ g3 (Gd.fzSm (.of_same sm)) ⟨C, dd, [(f, v), (g, v2)], rfl, hC, rfl, upd_same, fun z => g2.tr z nd, rfl, .cons (Rep.sm (.of_same sm) (Rep.sm s2 r1)) (.cons (Rep.sm (.of_same sm) r2) .nil)⟩
end
end DW
namespace PySem
namespace DWX
open PySem.W PySem.Calls PyProof.Rows PySem.HandSPX
open L2 (defArgs defBody defScope)
abbrev EvalOk2 (p r : Str) (q0 q1 q2 q3 q4 q10 : Pos) : Prop := ∀ env : Env, ∃ pl : Sem Bool, eval (.Call (.Attribute (.Call (.Name "super" q0) [] [] q1) "__init__" q2) [.Name p q3, .Name r q10] [] q4) env = (do
      let ov ← attributeBase (.Call (.Name "super" q0) [] [] q1) "__init__" env (eval (.Call (.Name "super" q0) [] [] q1) env)
      standAt q2.atName
      let (f, first) ← holding [ov] (getMethod ov "__init__" pl)
      callWith q4 f first (backTo q4 (starEach [.Name p q3, .Name r q10] env)) [])
/-- where in the text an error's __init__ stands: its shape and scope -/
structure ISc2 (p r : Str) (st : Stmt) : Prop where
  args : ∃ p1 p2 p3, defArgs st = iA2 p r p1 p2 p3
  body : ∃ q0 q1 q2 q3 q4 q5 q6 q7 q8 q9 q10 q11 q12 q13 q14, defBody st = iB2 p r q0 q1 q2 q3 q4 q5 q6 q7 q8 q9 q10 q11 q12 q13 q14 ∧ EvalOk2 p r q0 q1 q2 q3 q4 q10
  k : (defScope st).kind = .function
  co : (defScope st).isCoroutine = false
  gen : (defScope st).isGenerator = false
  cell : ((defScope st).names.all fun x => !decide (x.2 = .cell)) = true
  su : (defScope st).names.lookup ("super" : Str) = some .globalImplicit
  cl : (defScope st).names.lookup ("__class__" : Str) = some .free
  se : (defScope st).names.lookup ("self" : Str) = some .local
  pa : (defScope st).names.lookup p = some .local
  ne : p ≠ "self"
  db : (p == ("__debug__" : Str)) = false
  pr : (defScope st).names.lookup r = some .local
  ner : r ≠ "self"
  npr : r ≠ p
  dbr : (r == ("__debug__" : Str)) = false
abbrev BindOk2 (p r : Str) : Prop := ∀ (qual : Str) (sc : Scope) (doc pm ct : Value) (an : Option Addr) (cda cc : Addr) (p1 p2 p3 q0 q1 q2 q3 q4 q5 q6 q7 q8 q9 q10 q11 q12 q13 q14 : Pos) (x v v2 : Value),
    bindArgs (ksFn "__init__" qual (iA2 p r p1 p2 p3) (iB2 p r q0 q1 q2 q3 q4 q5 q6 q7 q8 q9 q10 q11 q12 q13 q14) sc .none .none doc pm an (.ref cda) ct cc) { pos := [x, v, v2] } = pure [(("self" : Str), x), (p, v), (r, v2)]
theorem bind_number_reason : BindOk2 "number" "reason" := fun _ _ _ _ _ _ _ _ _ _ _ _ _ _ _ _ _ _ _ _ _ _ _ _ _ _ _ _ _ => rfl
theorem errTxt2_of {prog : Program} {K : Frag} {x p r qual : Str} {st : Stmt} (S : ISc2 p r st) (bd : BindOk2 p r) (noR : findIn K (.ref (eC K x)) r = some none) (top : (prog.main.scope.names.lookup ("super" : Str)).isSome = false)
    (o : iObs K x = some (("__init__" : Str), qual, defArgs st, FuncBody.stmts (defBody st), defScope st, mainGlobals, builtinsNs)) (c : errB K prog.main.file qual (x, p) = true) : ErrTxt2 prog K (eC K x) (eD K x) (eI K x) (eCC K x) (eCd K x) p r := by
  unfold errB at c
  obtain ⟨c1, c⟩ := ba c
  obtain ⟨c2, c⟩ := ba c
  obtain ⟨c3, c⟩ := ba c
  obtain ⟨c4, c⟩ := ba c
  obtain ⟨c5, c⟩ := ba c
  obtain ⟨c6, c⟩ := ba c
  obtain ⟨c7, c⟩ := ba c
  obtain ⟨c8, c⟩ := ba c
  obtain ⟨c9, c⟩ := ba c
  obtain ⟨c10, c⟩ := ba c
  obtain ⟨c11, c⟩ := ba c
  obtain ⟨c12, c⟩ := ba c
  obtain ⟨c13, c⟩ := ba c
  obtain ⟨c14, c⟩ := ba c
  obtain ⟨c15, c17⟩ := ba c
  obtain ⟨c15, c16⟩ := ba c15
  have hcl : ∃ cl cld csl, K.lookup (eCC K x) = some ⟨cl, cld, .cell (some (.ref (eD K x))), csl⟩ := by
    split at c17
    · rename_i a b D e ho
      refine ⟨a, b, e, ?_⟩
      have : eD K x = D := by
        unfold eD
        rw [ho]
      rw [this]
      exact ho
    · cases c17
  obtain ⟨cdD, hD⟩ : ∃ cdD, clsIn K (eD K x) = some cdD := Option.isSome_iff_exists.mp c12
  refine ⟨clsB_ok c1, He.eqO_ok c2, He.eqO_ok c3, noR, S.npr, He.eqO_ok c4, of_decide_eq_true c5, c6, of_decide_eq_true c7, of_decide_eq_true c8, He.eqO_ok c9, of_decide_eq_true c10, He.eqO_ok c11,
    ⟨cdD, hD⟩, of_decide_eq_true c13, hcl, fileB_ok c14, top, ?_⟩
  unfold iObs at o
  cases ef : eFd K x with
  | none =>
    rw [ef] at o
    cases o
  | some fd =>
    rw [ef] at o
    dsimp only at c16
    rw [ef] at c16
    obtain ⟨d1, d⟩ := ba c16
    obtain ⟨d2, d⟩ := ba d
    obtain ⟨d3, d4⟩ := ba d
    have e2 := noneB_ok d2
    have e3 := noneB_ok d3
    have e4 := of_decide_eq_true d4
    have ecc : eCC K x = clC fd.closure := by
      unfold eCC
      rw [ef]
    have hof : ∃ oc od osl, K.lookup (eI K x) = some ⟨oc, od, .func fd, osl⟩ := by
      unfold eFd at ef
      split at ef
      · rename_i a b fd' d ho
        cases ef
        exact ⟨_, _, _, ho⟩
      · cases ef
    obtain ⟨oc, od, osl, hof⟩ := hof
    obtain ⟨p1, p2, p3, hA⟩ := S.args
    obtain ⟨q0, q1, q2, q3, q4, q5, q6, q7, q8, q9, q10, q11, q12, q13, q14, hB, ev⟩ := S.body
    obtain ⟨n1, n2, n3, n4, n5, n6, n7, n8, n9, n10, n11, n12, n13, n14, n15⟩ := fd
    have o2 : (some (n1, n2, n3, n4, n5, n6, n15) : IV) = some (("__init__" : Str), qual, defArgs st, FuncBody.stmts (defBody st), defScope st, mainGlobals, builtinsNs) := o
    simp only [Option.some.injEq, Prod.mk.injEq] at o2
    obtain ⟨h1, h2, h3, h4, h5, h6, h7⟩ := o2
    subst h1 h2 h3 h4 h5 h6 h7
    dsimp only at e2 e3 e4 d1 ecc
    subst e2 e3
    have ecl : n7 = [(("__class__" : Str), eCC K x)] := by
      unfold clIs at d1
      split at d1
      · rename_i n a
        rw [ecc, of_decide_eq_true d1]
        rfl
      · cases d1
    subst ecl
    refine ⟨oc, od, n2, defScope st, n10, n11, n12, n14, osl, p1, p2, p3, q0, q1, q2, q3, q4, q5, q6, q7, q8, q9, q10, q11, q12, q13, q14, ?_, c15, S.k, S.co, S.gen, fun y hy => ?_, S.su, S.cl, S.se, S.pa, S.ne, S.db, S.pr, S.ner, S.npr, S.dbr, fun a b c => bd _ _ _ _ _ _ _ _ _ _ _ _ _ _ _ _ _ _ _ _ _ _ _ _ _ _ a b c, ev⟩
    · rw [hof, hA, hB, e4]
    · have := List.all_eq_true.mp S.cell y hy
      intro z
      rw [decide_eq_true z] at this
      cases this
end DWX
end PySem
namespace DW
open PySem PySem.Spec L2
open PySem.DWX (EF IV iObs errB)
section
variable {F : Fc} {w : World} {M : Md} {h : Heap}
theorem Told.err2 {P : Program} {fn : List He.DefD} {g : Str} {cl : List Str} (T : Told F M h) (s : SaysW F fn w M.K) (i : Nat) {e : EQ} (hx : F.es[i]? = some e := by rfl) (S : PySem.DWX.ISc2 e.f g e.st) (bd : PySem.DWX.BindOk2 e.f g) (hf : F.file = P.main.file) (top : (P.main.scope.names.lookup ("super" : Str)).isSome = false)
    (hs : M.mg "super" = none) (fl : ErrFl M cl g) (hc : e.x ∈ cl) : ErrF2 P M e.x e.f g := by
  have c := List.all_eq_true.mp T.parts.2.2.2.1 _ (List.mem_of_getElem? hx)
  obtain ⟨c1, c2⟩ := ba c
  have o : F.es.map (fun e => iObs M.K e.x) = F.es.map EQ.val := congrArg (fun z : AlW => z.2.2.1) s
  have o2 : (F.es.map fun e => iObs M.K e.x)[i]? = (F.es.map EQ.val)[i]? := by rw [o]
  rw [List.getElem?_map, List.getElem?_map, hx] at o2
  rw [hf] at c2
  obtain ⟨C, hC, _, hno⟩ := fl.ok _ hc
  have z := gB_ok T.X T.G c1
  rw [hC] at z
  have z2 : C = He.ga M.K e.x := by cases z; rfl
  rw [z2] at hno
  exact ⟨_, _, _, _, _, PySem.DWX.errTxt2_of S bd hno top (Option.some.inj o2) c2, gB_ok T.X T.G c1, hs⟩
end
end DW

set_option Elab.async false
set_option linter.all false
set_option maxRecDepth 100000
set_option maxHeartbeats 4000000
/-! DWY3: a def that is handed the caught error, called in the suite. -/
namespace DW
open PySem PySem.Spec PyProof.Rows L2 L2H
abbrev FnE := XD → Int → R D
/-- what such a def promises (it raises nothing) -/
structure FnX (P : Program) (w : World) (K : PySem.W.Frag) (mg : Str → Option Value) (base : Heap) (k : Nat) (f : Addr) (fd : FuncData) (p : Str) (F : FnE) : Prop where
  run : ∀ (A : Around) (outer : List PySem.Env) (s : Shared) (H : Hp) (args : Args) (Q : VK) (E : XK) (a : Addr) (oe : Obj) (cls : Value) (d : Option Addr) (x : XD) (Fo : Addr → Prop) (L : Option Addr) (c c' : Int) (r : D),
    RoomH k A → A.guards = some [] → PinOk outer H s (a, oe) → Zc cls d oe → (∃ vs, oe.data = .fields vs) → Env0 P w K mg base A outer s H → BindsTo s fd args [(p, .ref a)] → (∀ b, Fo b → H b ≠ none) → CellOk H L c →
    XRep ⟨K, mg⟩ H (fun b => Fo b ∨ L = some b) L cls d x → F x c = .ok r c' → (∀ v H', Sm L H H' → CellOk H' L c' → Rep ⟨K, mg⟩ H' (fun b => Fo b ∨ L = some b) L v r → Q v H') →
    codeAny (model P w) A (.call (.ref f) args) (CR (L2.CX P w) outer P w H s Q E) s
/-- a body as such a function, m slots besides -/
def runX (m : Nat) (b : SF) : FnE := fun x c => match b (.ex x :: List.replicate m .no) c with
  | .ret d c => .ok d c
  | .nx _ c => .ok .non c
  | _ => .bad
/-- what holds of the context of such a body -/
structure CnX (X : Cx) (P : Program) (w : World) (M : Md) (base : Heap) (scope : Scope) (N : List Str) (p : Addr × Obj) : Prop where
  prog : X.prog = P
  w : X.w = w
  K : X.K = M.K
  mg : X.mg = M.mg
  base : X.base = base
  un : X.A.units + 200 < cLine
  gd : X.A.guards = some []
  sc : X.env.scope = scope
  N : X.N = N
  nd : X.N.Nodup
  pn : p ∈ X.pn
  fn : ∀ x, X.fn x = true
theorem gk_startX {M : Md} {H : Hp} {Fo : Addr → Prop} {L : Option Addr} {c : Int} {N : List Str} {a : Addr} {cls : Value} {d : Option Addr} {x : XD} (fo : ∀ a, Fo a → H a ≠ none) (ce : CellOk H L c) (r : XRep M H (fun a => Fo a ∨ L = some a) L cls d x) (hN : 1 ≤ N.length) :
    Gk M ⟨H, Fo, L, some (a, cls, d), []⟩ (L2.start N [.ref a]) H (.ex x :: List.replicate (N.length - 1) .no) c := by
  have only : ∀ {i : Nat} {z : S}, (S.ex x :: List.replicate (N.length - 1) S.no)[i]? = some z → z = .no ∨ (i = 0 ∧ z = .ex x) := fun {i z} e => by
    cases i with
    | zero => cases e; exact .inr ⟨rfl, rfl⟩
    | succ i =>
      rw [List.getElem?_cons_succ, List.getElem?_replicate] at e
      split at e <;> cases e
      exact .inl rfl
  have hO : ∀ b, Gd.O ⟨H, Fo, L, some (a, cls, d), []⟩ (L2.start N [.ref a]) (S.ex x :: List.replicate (N.length - 1) S.no) b → Fo b ∨ L = some b := fun b h => by
    rcases h with h | h | ⟨i, d, e, _⟩ | h
    · exact .inl h
    · exact .inr h
    · rcases only e with z | ⟨_, z⟩ <;> cases z
    · cases h
  have F : Fz (fun a => Fo a ∨ L = some a) H (Gd.O ⟨H, Fo, L, some (a, cls, d), []⟩ (L2.start N [.ref a]) (S.ex x :: List.replicate (N.length - 1) S.no)) H := fz_sub hO
  refine ⟨?_, .refl, ce, fo, fun b e z => ?_, fun i d e => ?_, fun i d e => ?_, (fun i j d d' b e => ?_), (fun p hp => (by cases hp)), List.nodup_nil, (fun b hb => (by cases hb)), (fun i z e => ?_)⟩
  · unfold L2.start
    rw [List.length_append, List.length_map, List.length_replicate, List.length_cons, List.length_replicate, List.length_cons, List.length_nil]
    omega
  · have z' : H b = none := z
    rw [ce b e] at z'; cases z'
  · rcases only e with z | ⟨_, z⟩ <;> cases z
  · rcases only e with z | ⟨_, z⟩ <;> cases z
  · rcases only e with z | ⟨_, z⟩ <;> cases z
  · rcases only e with z | ⟨hi, z⟩
    · cases z
    · cases z
      subst hi
      exact ⟨a, cls, d, rfl, rfl, r.fz F fun _ z => z⟩
section
variable {P : Program} {w : World} {K : PySem.W.Frag} {mg : Str → Option Value} {base : Heap} {x qual p : Str} {params : Arguments} {body : List Stmt} {scope : Scope} {f : Addr} {fd : FuncData} {N : List Str} {k : Nat} {b : SF}
theorem fnX_of (FD : FunD K x qual params body scope [] [] f fd) (S : FnScope N [p] scope) (hN : 1 ≤ N.length)
    (hbody : ∀ (X : Cx) (a : Addr) (oe : Obj) (cls : Value) (d : Option Addr), CnX X P w ⟨K, mg⟩ base scope N (a, oe) → Zc cls d oe → (∃ vs, oe.data = .fields vs) → DSs X (some (a, cls, d)) false body b) : FnX P w K mg base (k + 1) f fd p (runX (N.length - 1) b) := by
  obtain ⟨oc, od, dV, kV, doc, pm, an, cdv, ct, osl, rfl, lk, hcd, _, _⟩ := FD.ex
  refine ⟨fun A outer s H args Q E a oe cls d x Fo L c c' r hr hg hpin hz hf e0 hb fo ce hx hF hq => ?_⟩
  have KX : K.In s.heap := e0.mod.kin.keeps fun b o e => (e0.bs b o e).1
  have lim : s.heap.NoLimit := e0.mod.nolimit.keeps fun b o e => (e0.bs b o e).1
  have hkind : ∀ y ∈ [(p, Value.ref a)], scope.names.lookup y.1 = some .local ∨ (scope.names.lookup y.1 = some .cell ∧ ((cellsFrom (s.heap.objs.size + 1) scope.names []).lookup y.1).isSome = true) := fun y hy => by
    have e : y = (p, Value.ref a) := by simpa using hy
    rw [e]
    rcases S.par p (by simp) with q | q
    · exact .inl q
    · exact .inr ⟨q, PySem.W.cellsFrom_some _ _ _ (.inl q)⟩
  refine codeAny_call_function hr.depth (KX _ _ lk) rfl S.co S.gen rfl (PySem.W.codeRec_of KX hcd) (hb _ _ _ _ ?_)
  refine wpAny_newFunctionEnv_cells S.kind hkind fun env he s1 x1 => ?_
  subst he
  refine ⟨lim.keeps x1.toInCall.keep, codeAny_func ?_⟩
  have I := inv_startH (CX := L2.CX P w) (qual := qual) (cd := cdv) (f := f) (E := E) (us := [Value.ref a]) (vs := [V.ref a]) S hpin e0 rfl (.cons rfl .nil) x1
  generalize hX : cxH (L2.CX P w) P w K mg base N qual scope f cdv A outer s H E (a, oe) = X at I
  have C : CnX X P w ⟨K, mg⟩ base scope N (a, oe) := by
    subst hX
    refine ⟨rfl, rfl, rfl, rfl, rfl, ?_, hg, rfl, rfl, S.nd, List.mem_cons_self, fun _ => rfl⟩
    have := hr.un
    show A.units + 3 + 200 < cLine
    omega
  have tk : Takes X (fun cls d _ H => E cls d H) := by
    subst hX
    exact takes_of rfl rfl rfl rfl
  have hmd : X.md = ⟨K, mg⟩ := by subst hX; rfl
  have gk := gk_startX (M := ⟨K, mg⟩) (N := N) (a := a) fo ce hx hN
  have run := (hbody X a oe cls d C hz hf _ tk).run [] s1 (L2.start N [.ref a]) H { nx := fun _ H' => Q .non H', rt := Q } I (by
    rw [hmd]
    refine ⟨_, _, c, gk, rfl, ?_⟩
    unfold runX at hF
    cases e : b (.ex x :: List.replicate (N.length - 1) .no) c with
    | nx ev' c2 => rw [e] at hF; cases hF; exact fun σ' H' g F => hq .non H' g.keep g.cell .non
    | ret d c2 => rw [e] at hF; cases hF; exact fun v H' s k r => hq v H' s k r
    | exc z ev' c2 => rw [e] at hF; cases hF
    | brk _ _ => rw [e] at hF; cases hF
    | cnt _ _ => rw [e] at hF; cases hF
    | bad => rw [e] at hF; cases hF)
  subst hX
  refine wpAny_mono run (fun fl s' hs => ?_) fun e s' hs => hs
  cases fl with
  | ret u =>
    obtain ⟨v, σ', H', J, rv, q⟩ := hs
    exact ⟨v, H', J.os, J.bare, J.base, J.hok, rv, q⟩
  | next =>
    obtain ⟨σ', H', J, q⟩ := hs
    exact ⟨V.non, H', J.os, J.bare, J.base, J.hok, rfl, q⟩
  | brk =>
    obtain ⟨_, _, _, q⟩ := hs
    exact False.elim q
  | cont =>
    obtain ⟨_, _, _, q⟩ := hs
    exact False.elim q
end
/-- the name x calls such a def -/
def CallX (X : Cx) (x : Str) (F : FnE) : Prop := ∃ (k : Nat) (f : Addr) (fd : FuncData) (p : Str), FnX X.prog X.w X.K X.mg X.base k f fd p F ∧ RoomH k X.A ∧ X.A.guards = some [] ∧ X.mg x = some (.ref f) ∧ PySem.W.keepIn X.K (.ref f) = true ∧ Binds X.K fd [p] []
def eCallX (F : FnE) (i : Nat) : E := fun ev c => match ev[i]? with
  | some (.ex x) => match F x c with
    | .ok r c' => .ok r c'
    | _ => .bad
  | _ => .bad
section
variable {X : Cx} {x n : Str} {p q pos : Pos} {a : Addr} {oe : Obj} {cls : Value} {d : Option Addr}
theorem DE.callX {F : FnE} (i : Nat) (C : CallX X x F) (hpn : (a, oe) ∈ X.pn) (hz : Zc cls d oe) (hf : ∃ vs, oe.data = .fields vs) (hg : Gl X x) (hd : cDbg x = true) (hN : X.N[i]? = some n) (hv : L2.Vis X.env.scope n) (hdn : cDbg n = true)
    (he : starEach (.Name n q :: []) X.env = (false, eval (.Name n q) X.env) :: starEach [] X.env := by rfl) (hpl : (backTo pos (starEach [] X.env)).any (·.1) = false := by rfl) :
    DE X (some (a, cls, d)) (.Call (.Name x p) [.Name n q] [] pos) (eCallX F i) := fun W hW => by
  unfold cDbg at hd hdn
  simp only [Bool.and_eq_true, Bool.not_eq_true'] at hd hdn
  obtain ⟨k, f, fd, ps, hF, hr, hgd, hm, hk, hb⟩ := C
  refine ⟨fun pins s σ H Q I h => ?_⟩
  obtain ⟨G, ev, c, g, hx, h⟩ := h
  unfold eCallX at h
  split at h
  · rename_i xd e1
    obtain ⟨a', cls', d', q1, q2, xr⟩ := g.ex i xd e1
    rw [hx] at q1
    cases q1
    split at h
    · rename_i r c' e2
      have hO : (fun b => (G.Fo b ∨ OwnA σ ev b ∨ b ∈ G.Tm.map (·.1)) ∨ G.L = some b) = G.O σ ev := funext fun b => propext ⟨fun z => by
        rcases z with (z | z | z) | z
        · exact .inl z
        · exact .inr (.inr (.inl z))
        · exact .inr (.inr (.inr z))
        · exact .inr (.inl z), fun z => by
        rcases z with z | z | z | z
        · exact .inl (.inl z)
        · exact .inr z
        · exact .inl (.inr (.inl z))
        · exact .inl (.inr (.inr z))⟩
      refine wpAny_Call_Name_kw (ld_glob I hg hm ?_ hd.1.1)
      refine PySem.W.callWith_K (h₀ := X.base) I.ok.mod.kin hk (thn ((pa_cons (pe_var hN hv hdn.1.1 hdn.1.2) pa_nil he).run pos pins s σ H (fun vs H1 => vs = [.ref a] ∧ H1 = H) I ⟨_, q2, rfl, rfl⟩) fun us s1 ⟨vs, H1, I1, r1, z1, z2⟩ => ⟨I1.kIn, ?_⟩) he hpl
      subst z1 z2
      cases r1 with
      | cons ra rn =>
      cases rn
      cases ra
      have bd := hb s1 [.ref a] I1.kIn rfl
      have P1 := I1.pin (a, oe) (List.mem_append_left _ hpn)
      have hpin : PinOk X.stack H1 s1 (a, oe) := ⟨P1.1, P1.2.1, fun hm => (List.mem_cons.mp (I1.stkSub a hm)).elim P1.2.2.1 P1.2.2.2.1, P1.2.2.2.2⟩
      refine wpAny_call (codeAny_mono (hF.run X.A X.stack s1 H1 ⟨[.ref a], []⟩ Q (fun cls d H' => W cls d σ H') a oe cls d xd (fun b => G.Fo b ∨ OwnA σ ev b ∨ b ∈ G.Tm.map (·.1)) G.L c c' r hr hgd hpin hz hf I1.env0 bd (fun b z => g.tr (by rw [← hO]; exact .inl z)) g.cell (by rw [hO]; exact xr) e2 (by rw [hO]; exact h)) fun r s' hq => ?_)
      cases r with
      | error e => exact passAt hW σ pins H1 s1 e s' I1 hq
      | ok fl =>
        cases fl with
        | ret u => exact I1.after hq
        | next => exact False.elim hq
        | brk => exact False.elim hq
        | cont => exact False.elim hq
    · exact h.elim
  · exact h.elim
end
end DW

set_option Elab.async false
set_option linter.all false
set_option maxRecDepth 100000
set_option maxHeartbeats 4000000
/-! DWY4: isinstance of a caught error in any context that pins it; of a built-in class; a clause for a class without __init__. -/
namespace DW
open PySem PySem.Spec L2
/-- what isinstance(e, T) is, T built-in -/
structure ErrB (M : Md) (cl cl0 : List Str) (Tn : String) (ans : Str → Bool) : Prop where
  ok : ∀ x ∈ cl, x ∈ cl0 ∧ ∃ C, M.mg x = some (.ref C) ∧ PySem.W.kitOne M.K (.ref C) (.type Tn) = some (ans x)
theorem kitOne_ve {K : PySem.W.Frag} {C : Addr} (h : PySem.W.subIn K (.ref C) (.type "ValueError") = some true) : PySem.W.kitOne K (.ref C) (.type "ValueError") = some true := by
  unfold PySem.W.kitOne PySem.W.kitCls
  rw [if_neg (by intro z; exact Bool.noConfusion (show false = true from z))]
  dsimp only
  rw [if_pos (by decide +kernel)]
  exact h
theorem ErrF.ve {P : Program} {M : Md} {x f : Str} (h : ErrF P M x f) : ∃ C, M.mg x = some (.ref C) ∧ PySem.W.kitOne M.K (.ref C) (.type "ValueError") = some true :=
  let ⟨C, _, _, _, _, T, hC, _⟩ := h; ⟨C, hC, kitOne_ve T.hB⟩
theorem ErrF2.ve {P : Program} {M : Md} {x f g : Str} (h : ErrF2 P M x f g) : ∃ C, M.mg x = some (.ref C) ∧ PySem.W.kitOne M.K (.ref C) (.type "ValueError") = some true :=
  let ⟨C, _, _, _, _, T, hC, _⟩ := h; ⟨C, hC, kitOne_ve T.hB⟩
section
variable {X : Cx} {B : Blk} {a : Addr} {oe : Obj} {cls : Value} {d : Option Addr} {pn : List (Addr × Obj)} {pos p : Pos} {x f : Str} {cl : List Str}
theorem DE.xisX (i : Nat) (hpn : (a, oe) ∈ X.pn) {ans : Str → Bool} {c : Str} {p0 p1 : Pos} (T : ErrIs X.md cl c ans) (hm : X.mg "isinstance" = none) (hgi : Gl X "isinstance") (hgc : Gl X c) (hdc : cDbg c = true) (hz : Zc cls d oe) (hf : ∃ vs, oe.data = .fields vs) (hN : X.N[i]? = some x) (hv : L2.Vis X.env.scope x) (hd : cDbg x = true)
    (he : starEach [.Name x p, .Name c p1] X.env = (false, eval (.Name x p) X.env) :: starEach [.Name c p1] X.env := by rfl) (hpl : (backTo pos (starEach [.Name c p1] X.env)).any (·.1) = false := by rfl) :
    DE X (some (a, cls, d)) (.Call (.Name "isinstance" p0) [.Name x p, .Name c p1] [] pos) (eXis cl ans i) := fun W hW => by
  unfold cDbg at hd hdc
  simp only [Bool.and_eq_true, Bool.not_eq_true'] at hd hdc
  refine ⟨fun pins s σ H Q I h => ?_⟩
  obtain ⟨G, ev, cc, k, hx, h⟩ := h
  unfold eXis at h
  split at h
  · rename_i xd e1
    by_cases hc : xd.cls ∈ cl
    · rw [if_pos hc] at h
      obtain ⟨a', cls', d', q1, q2, C, dd, fs, rfl, hC, rfl, r4, r5, r6, r7⟩ := k.ex i xd e1
      rw [hx] at q1
      cases q1
      obtain ⟨C', Dc, hC', hD, hk, t1, t2, t3, t4, t5, t6, t7, t8⟩ := T.ok _ hc
      have : C' = C := by
        rw [hC] at hC'
        cases hC'
        rfl
      subst this
      -- isinstance by values
      have call : CallR X (.builtin "isinstance") (fun xs H Q => xs = [.ref a, .ref Dc] ∧ H dd = some (.xd fs) ∧ Q (.bl (ans xd.cls)) H) := by
        intro pins s σ H xs us Q I r h
        obtain ⟨rfl, hdd, q⟩ := h
        cases r with
        | cons rx rr =>
          cases rr with
          | cons rt rr =>
            cases rr
            cases rx
            cases rt
            obtain ⟨hget, _⟩ := I.pin (a, oe) (List.mem_append.mpr (.inl hpn))
            obtain ⟨vs, hv⟩ := hf
            have hxo : ObjOk X.prog X.w H s.heap dd (.xd fs) := I.hok dd _ hdd
            obtain ⟨mA, hns, hr⟩ := hxo
            obtain ⟨od, ho, hl⟩ := lookIn_ns hns
            have J : PySem.W.InstAt s.heap a oe C' (some od) := ⟨hget, hz.1, by unfold PySem.W.notCls; rw [hv] <;> rfl, by rw [hz.2]; exact ho⟩
            exact PySem.W.kia_one (PySem.W.kitx_exc t1 t2 t3 t4 t5 t6 t7 t8) I.kIn J hk (fun z => nomatch z) fun tk => ⟨.bl (ans xd.cls), H, I.kept (t' := tk) fun _ _ z => z, rfl, q⟩
      refine (pe_callB (X := X) (id := "isinstance") call hgi hm (by decide +kernel) (pa_cons (pe_var (X := X) hN hv hd.1.1 hd.1.2) (pa_cons (pe_glob (X := X) (v := .ref Dc) hgc hD rfl hdc.1.1) pa_nil rfl) he) (by decide) (by decide) he hpl).run pins s σ H Q I ?_
      exact ⟨_, q2, rfl, r4, h (.bl _) H .refl k.cell (.bl _)⟩
    · rw [if_neg hc] at h; exact h.elim
  · exact h.elim
theorem DE.xisB (i : Nat) {Tn : String} {c0 : Str} {ans0 : Str → Bool} {cl0 : List Str} (hpn : (a, oe) ∈ X.pn) {ans : Str → Bool} {c : Str} {p0 p1 : Pos} (T : ErrIs X.md cl0 c0 ans0) (TB : ErrB X.md cl cl0 Tn ans) (hmc : X.mg c = none) (hvb : bootBuiltins c = some (.type Tn)) (hm : X.mg "isinstance" = none) (hgi : Gl X "isinstance") (hgc : Gl X c) (hdc : cDbg c = true) (hz : Zc cls d oe) (hf : ∃ vs, oe.data = .fields vs) (hN : X.N[i]? = some x) (hv : L2.Vis X.env.scope x) (hd : cDbg x = true)
    (he : starEach [.Name x p, .Name c p1] X.env = (false, eval (.Name x p) X.env) :: starEach [.Name c p1] X.env := by rfl) (hpl : (backTo pos (starEach [.Name c p1] X.env)).any (·.1) = false := by rfl) :
    DE X (some (a, cls, d)) (.Call (.Name "isinstance" p0) [.Name x p, .Name c p1] [] pos) (eXis cl ans i) := fun W hW => by
  unfold cDbg at hd hdc
  simp only [Bool.and_eq_true, Bool.not_eq_true'] at hd hdc
  refine ⟨fun pins s σ H Q I h => ?_⟩
  obtain ⟨G, ev, cc, k, hx, h⟩ := h
  unfold eXis at h
  split at h
  · rename_i xd e1
    by_cases hc : xd.cls ∈ cl
    · rw [if_pos hc] at h
      obtain ⟨a', cls', d', q1, q2, C, dd, fs, rfl, hC, rfl, r4, r5, r6, r7⟩ := k.ex i xd e1
      rw [hx] at q1
      cases q1
      obtain ⟨hc0, C', hC', hk⟩ := TB.ok _ hc
      obtain ⟨C2, Dc, hC2, hD, _, t1, t2, t3, t4, t5, t6, t7, t8⟩ := T.ok _ hc0
      have : C' = C2 := by
        rw [hC'] at hC2
        cases hC2
        rfl
      subst this
      have : C' = C := by
        rw [hC] at hC'
        cases hC'
        rfl
      subst this
      -- isinstance by values
      have call : CallR X (.builtin "isinstance") (fun xs H Q => xs = [.ref a, .ty Tn] ∧ H dd = some (.xd fs) ∧ Q (.bl (ans xd.cls)) H) := by
        intro pins s σ H xs us Q I r h
        obtain ⟨rfl, hdd, q⟩ := h
        cases r with
        | cons rx rr =>
          cases rr with
          | cons rt rr =>
            cases rr
            cases rx
            cases rt
            obtain ⟨hget, _⟩ := I.pin (a, oe) (List.mem_append.mpr (.inl hpn))
            obtain ⟨vs, hv⟩ := hf
            have hxo : ObjOk X.prog X.w H s.heap dd (.xd fs) := I.hok dd _ hdd
            obtain ⟨mA, hns, hr⟩ := hxo
            obtain ⟨od, ho, hl⟩ := lookIn_ns hns
            have J : PySem.W.InstAt s.heap a oe C' (some od) := ⟨hget, hz.1, by unfold PySem.W.notCls; rw [hv] <;> rfl, by rw [hz.2]; exact ho⟩
            exact PySem.W.kia_one (PySem.W.kitx_exc t1 t2 t3 t4 t5 t6 t7 t8) I.kIn J hk (fun z => nomatch z) fun tk => ⟨.bl (ans xd.cls), H, I.kept (t' := tk) fun _ _ z => z, rfl, q⟩
      refine (pe_callB (X := X) (id := "isinstance") call hgi hm (by decide +kernel) (pa_cons (pe_var (X := X) hN hv hd.1.1 hd.1.2) (pa_cons (pe_bltn (X := X) (v := .ty Tn) hgc hmc hvb rfl (by simpa using hdc.2) hdc.1.1) pa_nil rfl) he) (by decide) (by decide) he hpl).run pins s σ H Q I ?_
      exact ⟨_, q2, rfl, r4, h (.bl _) H .refl k.cell (.bl _)⟩
    · rw [if_neg hc] at h; exact h.elim
  · exact h.elim
end
section
variable {X : Cx} {lo : Bool} {B : Blk} {x : Str}
theorem HsD.asC {n : Str} {i : Nat} {f : SF} {b₀ : Stmt} {suite : List Stmt} {np pos' : Pos} {hds : List ExceptHandler} {l : List Hd} (S : ScX X B) (hC : ∃ C, X.mg x = some (.ref C)) (h : B.gl x = true) (hi : B.var i n = true) (hln : kL (B.sc.names.lookup n) = true)
      (hsu : ∀ (a : Addr) (oe : Obj) (cls : Value) (d : Option Addr) (pn : List (Addr × Obj)), Zc cls d oe → (∃ vs, oe.data = .fields vs) → DSs (X.suite a ((a, oe) :: pn)) (some (a, cls, d)) lo (b₀ :: suite) f) (r : HsD X lo hds l) :
      HsD X lo (.ExceptHandler (some (.Name x np)) (some n) (b₀ :: suite) pos' :: hds) ((x, some i, f) :: l) := by
  obtain ⟨C, hC⟩ := hC
  obtain ⟨g1, g2⟩ := S.gl h
  exact .as hC g1 g2 (S.visN hi).1 (by show X.env.scope.names.lookup n = _; rw [S.sc]; exact kL_ok hln) hsu r
end
end DW

set_option Elab.async false
set_option linter.all false
set_option maxRecDepth 100000
set_option maxHeartbeats 4000000
/-! DWY5: what gen.py prints for a def that is handed the error. -/
namespace DW
open PySem PySem.Spec L2 L2H
def XDefOk (P : Program) (w : World) (M : Md) (base : Heap) (k : Nat) (x : Str) (F : FnE) : Prop := ∃ (f : Addr) (fd : FuncData) (p : Str), FnX P w M.K M.mg base k f fd p F ∧ M.mg x = some (.ref f) ∧ PySem.W.keepIn M.K (.ref f) = true ∧ Binds M.K fd [p] []
theorem RoomH.of {k j : Nat} {A : Around} (r : Room k A) (h : j ≤ k) : RoomH j A := (roomH_of r).mono h
theorem Cn.okX {X : Cx} {P : Program} {w : World} {M : Md} {base : Heap} {k j : Nat} {x : Str} {F : FnE} (C : Cn X P w M base k) (h : XDefOk P w M base j x F) (hj : j ≤ k) : CallX X x F := by
  obtain ⟨f, fd, p, hF, hm, kp, bd⟩ := h
  obtain ⟨h1, h2, h3, h4, h5, h6, h7, _⟩ := C
  obtain ⟨K, mg⟩ := M
  subst h1 h2 h5
  dsimp only at h3 h4 hF hm kp bd
  subst h3 h4
  exact ⟨j, f, fd, p, hF, RoomH.of h6 hj, h7, hm, kp, bd⟩
theorem CallX.suite {X : Cx} {x : Str} {F : FnE} (C : CallX X x F) (a : Addr) (pn : List (Addr × Obj)) : CallX (X.suite a pn) x F := by
  obtain ⟨k, f, fd, p, h1, h2, h3, h4⟩ := C
  exact ⟨k, f, fd, p, h1, ⟨h2.dp, h2.un⟩, h3, h4⟩
section
variable {X : Cx} {B : Blk} {a : Addr} {oe : Obj} {cls : Value} {d : Option Addr} {pn : List (Addr × Obj)} {pos p q : Pos} {x n : Str}
theorem ScV.callX {F : FnE} (S : ScX X B) (i : Nat) (C : CallX X x F) (hz : Zc cls d oe) (hf : ∃ vs, oe.data = .fields vs) (h : B.gl x = true) (hn : B.var i n = true)
    (he : starEach (.Name n q :: []) X.env = (false, eval (.Name n q) X.env) :: starEach [] X.env := by rfl) (hpl : (backTo pos (starEach [] X.env)).any (·.1) = false := by rfl) :
    DE (X.suite a ((a, oe) :: pn)) (some (a, cls, d)) (.Call (.Name x p) [.Name n q] [] pos) (eCallX F i) := let ⟨h1, h2, h3⟩ := S.visN hn; let ⟨g1, g2⟩ := S.gl h; DE.callX i (C.suite a _) List.mem_cons_self hz hf g1 g2 h1 h2 h3 he hpl
theorem ScV.xisB {cl cl0 : List Str} {ans ans0 : Str → Bool} {c c0 : Str} {Tn : String} {p0 p1 : Pos} (S : ScX X B) (i : Nat) (T : ErrIs X.md cl0 c0 ans0) (TB : ErrB X.md cl cl0 Tn ans) (hmc : X.mg c = none) (hvb : bootBuiltins c = some (.type Tn)) (hm : X.mg "isinstance" = none) (hgi : B.gl "isinstance" = true) (hgc : B.gl c = true) (hz : Zc cls d oe) (hf : ∃ vs, oe.data = .fields vs) (h : B.var i x = true)
    (he : starEach [.Name x p, .Name c p1] X.env = (false, eval (.Name x p) X.env) :: starEach [.Name c p1] X.env := by rfl) (hpl : (backTo pos (starEach [.Name c p1] X.env)).any (·.1) = false := by rfl) :
    DE (X.suite a ((a, oe) :: pn)) (some (a, cls, d)) (.Call (.Name "isinstance" p0) [.Name x p, .Name c p1] [] pos) (eXis cl ans i) := let ⟨h1, h2, h3⟩ := S.visN h; let ⟨g1, _⟩ := S.gl hgi; let ⟨g2, g3⟩ := S.gl hgc; DE.xisB (X := X.suite a ((a, oe) :: pn)) i List.mem_cons_self T TB hmc hvb hm g1 g2 g3 hz hf h1 h2 h3 he hpl
end
/-- the names of a context, by tests -/
theorem CnX.var {X : Cx} {P : Program} {w : World} {M : Md} {base : Heap} {scope : Scope} {N : List Str} {p : Addr × Obj} (C : CnX X P w M base scope N p) (i : Nat) {x : Str} (h : (Blk.mk scope N fun _ => true).var i x = true) : X.N[i]? = some x ∧ Vis X.env.scope x ∧ cDbg x = true := by
  have S : ScX { X with calm := true } ⟨scope, N, fun _ => true⟩ := ⟨C.sc, C.N, C.nd, rfl, fun x _ => C.fn x⟩
  exact S.visN h
theorem CnX.tgt {X : Cx} {P : Program} {w : World} {M : Md} {base : Heap} {scope : Scope} {N : List Str} {p : Addr × Obj} (C : CnX X P w M base scope N p) (i : Nat) {x : Str} (h : (Blk.mk scope N fun _ => true).tgt i x = true) : X.N[i]? = some x ∧ Loc X.env.scope x ∧ (X.fn x = true ∨ X.env.scope.names.lookup x = some .local) := by
  have S : ScX { X with calm := true } ⟨scope, N, fun _ => true⟩ := ⟨C.sc, C.N, C.nd, rfl, fun x _ => C.fn x⟩
  exact S.tgtN h
theorem CnX.gl {X : Cx} {P : Program} {w : World} {M : Md} {base : Heap} {scope : Scope} {N : List Str} {p : Addr × Obj} (C : CnX X P w M base scope N p) {x : Str} (h : (Blk.mk scope N fun _ => true).gl x = true) : Gl X x ∧ cDbg x = true := by
  have S : ScX { X with calm := true } ⟨scope, N, fun _ => true⟩ := ⟨C.sc, C.N, C.nd, rfl, fun x _ => C.fn x⟩
  exact S.gl h
theorem CnX.md {X : Cx} {P : Program} {w : World} {M : Md} {base : Heap} {scope : Scope} {N : List Str} {p : Addr × Obj} (C : CnX X P w M base scope N p) : X.md = M := by
  obtain ⟨K, mg⟩ := M
  have h1 := C.K
  have h2 := C.mg
  show (⟨X.K, X.mg⟩ : Md) = _
  rw [h1, h2]
end DW

set_option Elab.async false
set_option linter.all false
set_option maxRecDepth 100000
set_option maxHeartbeats 0
/-! printed by gen.py: the mirrors of the law's defs, and that the defs keep them. -/
namespace LAW
open PySem PySem.Spec L2 DW
def top (i : Nat) : Stmt := PySem.Challenge.pw_bothatonce_k00_errors_and_limits.main.body.getD i (.Pass ⟨0, 0, 0, 0⟩)

def k_MAX_ALIKE : D := (.int 400)
def k_MAX_BITS : D := (.int 4)
def k_MAX_CODED : D := (.int 7)
def k_MAX_DEPTH : D := (.int 40)
def k_MAX_GATES : D := (.int 60)
def k_MAX_GRAPH : D := (.int 8)
def k_MAX_LETTERS : D := (.int 8)
def k_MAX_LINES : D := (.int 200)
def k_MAX_MIXED : D := (.int 3)
def k_MAX_NOISY : D := (.int 5)
def k_MAX_NUMBER : D := (.int 1000000)
def k_MAX_PLAIN : D := (.int 3)
def k_MAX_RING : D := (.int 12)
def k_MAX_SIGN_GROUP : D := (.int 1024)
def k_MAX_SIGN_WORDS : D := (.int 16)
def k_MAX_TABLES : D := (.int 16)
def k_MAX_TEXT : D := (.int 6000)
def k_MAX_THINGS : D := (.int 40)
def k_MAX_TS : D := (.int 30)
def k_MAX_TURNED : D := (.int 3)
def k_MAX_WALKED : D := (.int 20)
def frs : List Str := ["ValueError", "abs", "int", "isinstance", "len", "range", "repr"]
def errs_at : List Str := ["TextError"]
def errs_line : List Str := ["CommandError"]
def errs_number : List Str := ["LogError"]
def errs_reason : List Str := ["ReasonError", "ArgumentError", "CheckError", "PaperError", "TooMany", "LogError"]
def errs : List Str := ["ReasonError", "ArgumentError", "CheckError", "PaperError", "TooMany", "TextError", "LogError", "CommandError"]
def is_ArgumentError (x : Str) : Bool := decide (x ∈ (["ArgumentError"] : List Str))
def is_CheckError (x : Str) : Bool := decide (x ∈ (["CheckError"] : List Str))
def is_CommandError (x : Str) : Bool := decide (x ∈ (["CommandError"] : List Str))
def is_LogError (x : Str) : Bool := decide (x ∈ (["LogError"] : List Str))
def is_PaperError (x : Str) : Bool := decide (x ∈ (["PaperError"] : List Str))
def is_TextError (x : Str) : Bool := decide (x ∈ (["TextError"] : List Str))
def is_TooMany (x : Str) : Bool := decide (x ∈ (["TooMany"] : List Str))
/-- is an error of class x one of class c -/
def subT : List (Str × Str × Bool) := ("ReasonError", "StateError", true) :: ("ReasonError", "ReasonError", true) :: ("ReasonError", "ArgumentError", false) :: ("ReasonError", "CheckError", false) :: ("ReasonError", "PaperError", false) :: ("ReasonError", "TooMany", false) :: ("ReasonError", "TextError", false) :: ("ReasonError", "LogError", false) :: ("ReasonError", "CommandError", false) :: ("ArgumentError", "StateError", true) :: ("ArgumentError", "ReasonError", true) :: ("ArgumentError", "ArgumentError", true) :: ("ArgumentError", "CheckError", false) :: ("ArgumentError", "PaperError", false) :: ("ArgumentError", "TooMany", false) :: ("ArgumentError", "TextError", false) :: ("ArgumentError", "LogError", false) :: ("ArgumentError", "CommandError", false) :: ("CheckError", "StateError", true) :: ("CheckError", "ReasonError", true) :: ("CheckError", "ArgumentError", false) :: ("CheckError", "CheckError", true) :: ("CheckError", "PaperError", false) :: ("CheckError", "TooMany", false) :: ("CheckError", "TextError", false) :: ("CheckError", "LogError", false) :: ("CheckError", "CommandError", false) :: ("PaperError", "StateError", true) :: ("PaperError", "ReasonError", true) :: ("PaperError", "ArgumentError", false) :: ("PaperError", "CheckError", false) :: ("PaperError", "PaperError", true) :: ("PaperError", "TooMany", false) :: ("PaperError", "TextError", false) :: ("PaperError", "LogError", false) :: ("PaperError", "CommandError", false) :: ("TooMany", "StateError", true) :: ("TooMany", "ReasonError", true) :: ("TooMany", "ArgumentError", false) :: ("TooMany", "CheckError", false) :: ("TooMany", "PaperError", false) :: ("TooMany", "TooMany", true) :: ("TooMany", "TextError", false) :: ("TooMany", "LogError", false) :: ("TooMany", "CommandError", false) :: ("TextError", "StateError", true) :: ("TextError", "ReasonError", false) :: ("TextError", "ArgumentError", false) :: ("TextError", "CheckError", false) :: ("TextError", "PaperError", false) :: ("TextError", "TooMany", false) :: ("TextError", "TextError", true) :: ("TextError", "LogError", false) :: ("TextError", "CommandError", false) :: ("LogError", "StateError", true) :: ("LogError", "ReasonError", false) :: ("LogError", "ArgumentError", false) :: ("LogError", "CheckError", false) :: ("LogError", "PaperError", false) :: ("LogError", "TooMany", false) :: ("LogError", "TextError", false) :: ("LogError", "LogError", true) :: ("LogError", "CommandError", false) :: ("CommandError", "StateError", true) :: ("CommandError", "ReasonError", false) :: ("CommandError", "ArgumentError", false) :: ("CommandError", "CheckError", false) :: ("CommandError", "PaperError", false) :: ("CommandError", "TooMany", false) :: ("CommandError", "TextError", false) :: ("CommandError", "LogError", false) :: ("CommandError", "CommandError", true) :: []
def sub (x c : Str) : Option Bool := (subT.find? fun t => decide (t.1 = x) && decide (t.2.1 = c)).map (·.2.2)
structure Fx (P : Program) (W : World) (M : Md) : Prop where
  fr : ∀ x, x ∈ frs → M.mg x = none
  g_MAX_ALIKE : GlobD M "MAX_ALIKE" k_MAX_ALIKE
  g_MAX_BITS : GlobD M "MAX_BITS" k_MAX_BITS
  g_MAX_CODED : GlobD M "MAX_CODED" k_MAX_CODED
  g_MAX_DEPTH : GlobD M "MAX_DEPTH" k_MAX_DEPTH
  g_MAX_GATES : GlobD M "MAX_GATES" k_MAX_GATES
  g_MAX_GRAPH : GlobD M "MAX_GRAPH" k_MAX_GRAPH
  g_MAX_LETTERS : GlobD M "MAX_LETTERS" k_MAX_LETTERS
  g_MAX_LINES : GlobD M "MAX_LINES" k_MAX_LINES
  g_MAX_MIXED : GlobD M "MAX_MIXED" k_MAX_MIXED
  g_MAX_NOISY : GlobD M "MAX_NOISY" k_MAX_NOISY
  g_MAX_NUMBER : GlobD M "MAX_NUMBER" k_MAX_NUMBER
  g_MAX_PLAIN : GlobD M "MAX_PLAIN" k_MAX_PLAIN
  g_MAX_RING : GlobD M "MAX_RING" k_MAX_RING
  g_MAX_SIGN_GROUP : GlobD M "MAX_SIGN_GROUP" k_MAX_SIGN_GROUP
  g_MAX_SIGN_WORDS : GlobD M "MAX_SIGN_WORDS" k_MAX_SIGN_WORDS
  g_MAX_TABLES : GlobD M "MAX_TABLES" k_MAX_TABLES
  g_MAX_TEXT : GlobD M "MAX_TEXT" k_MAX_TEXT
  g_MAX_THINGS : GlobD M "MAX_THINGS" k_MAX_THINGS
  g_MAX_TS : GlobD M "MAX_TS" k_MAX_TS
  g_MAX_TURNED : GlobD M "MAX_TURNED" k_MAX_TURNED
  g_MAX_WALKED : GlobD M "MAX_WALKED" k_MAX_WALKED
  e_ArgumentError : ErrF P M "ArgumentError" "reason"
  e_CheckError : ErrF P M "CheckError" "reason"
  e_CommandError : ErrF P M "CommandError" "line"
  e_PaperError : ErrF P M "PaperError" "reason"
  e_TextError : ErrF P M "TextError" "at"
  e_TooMany : ErrF P M "TooMany" "reason"
  e2_LogError : ErrF2 P M "LogError" "number" "reason"
  c_LogError : ∃ C, M.mg "LogError" = some (.ref C)
  c_StateError : ∃ C, M.mg "StateError" = some (.ref C)
  tb : ErrTb M sub
  fl_at : ErrFl M errs_at "at"
  fl_line : ErrFl M errs_line "line"
  fl_number : ErrFl M errs_number "number"
  fl_reason : ErrFl M errs_reason "reason"
  is_ArgumentError : ErrIs M errs "ArgumentError" is_ArgumentError
  is_CheckError : ErrIs M errs "CheckError" is_CheckError
  is_CommandError : ErrIs M errs "CommandError" is_CommandError
  is_LogError : ErrIs M errs "LogError" is_LogError
  is_PaperError : ErrIs M errs "PaperError" is_PaperError
  is_TextError : ErrIs M errs "TextError" is_TextError
  is_TooMany : ErrIs M errs "TooMany" is_TooMany
def errsU : List Str := ["ArgumentError", "CheckError", "CommandError", "PaperError", "TextError", "TooMany", "LogError"]
def is_VE (_ : Str) : Bool := true
theorem tb_ve {P : Program} {W : World} {M : Md} (hx : Fx P W M) : ErrB M errsU errs "ValueError" is_VE := by
  refine ⟨fun x h => ?_⟩
  unfold errsU at h
  simp only [List.mem_cons, List.not_mem_nil, or_false] at h
  rcases h with rfl | rfl | rfl | rfl | rfl | rfl | rfl
  · exact ⟨by decide +kernel, hx.e_ArgumentError.ve⟩
  · exact ⟨by decide +kernel, hx.e_CheckError.ve⟩
  · exact ⟨by decide +kernel, hx.e_CommandError.ve⟩
  · exact ⟨by decide +kernel, hx.e_PaperError.ve⟩
  · exact ⟨by decide +kernel, hx.e_TextError.ve⟩
  · exact ⟨by decide +kernel, hx.e_TooMany.ve⟩
  · exact ⟨by decide +kernel, hx.e2_LogError.ve⟩
/-! ### _law_draws -/
noncomputable def m__law_draws : SF := sSeq (sOwn 1 (eLst (aNil))) (sSeq (sFor (iOf1 itSeq (eSl (eVar 0) (oNo) (oSo (eK (.int 63))))) (.nm 2) (sSeq (sSet 3 (eFn dAbs (aCons (eVar 2) (aNil)))) (sIf (tTru (eBin dGe (eVar 3) (eBin dPow (eK (.int 10)) (eK (.int 18))))) (sFor (iOf itR1 (aCons (eK (.int 60)) (aNil))) (.nm 4) (sIf (tTru (eBin dGt (eVar 3) (eK (.int 0)))) (sSeq (sApp 1 (eBin dMod (eFn dInt (aCons (eVar 3) (aNil))) (eK (.int 1009)))) (sSet 3 (eBin dFdiv (eVar 3) (eK (.int 1009))))) (sNil))) (sSeq (sSet 5 (eBin dMod (eFn dInt (aCons (eBin dAdd (eBin dMul (eVar 3) (eK (.int 48271))) (eK (.int 11))) (aNil))) (eK (.int 2147483647)))) (sFor (iOf itR1 (aCons (eK (.int 12)) (aNil))) (.nm 4) (sSeq (sSet 5 (eBin dMod (eFn dInt (aCons (eBin dAdd (eBin dAdd (eBin dMul (eVar 5) (eK (.int 16807))) (eBin dMul (eK (.int 69621)) (eVar 4))) (eK (.int 5))) (aNil))) (eK (.int 2147483629)))) (sApp 1 (eBin dFdiv (eVar 5) (eK (.int 1009)))))))))) (sFz 1 (sRet (eVar 1))))
noncomputable def F__law_draws : Fn := runF 1 6 m__law_draws
def N__law_draws : List Str := ["script", "draws", "cell", "rest", "k", "mixed"]
abbrev B__law_draws : Blk := ⟨defScope (top 32), N__law_draws, fun _ => true⟩
theorem sc__law_draws : FnScope N__law_draws ["script"] (defScope (top 32)) := ⟨rfl, rfl, rfl, by decide +kernel, rfl, by decide +kernel, by decide +kernel⟩
theorem ds__law_draws {X : Cx} (S : ScX X B__law_draws) (Z : Zx Fx X)  : DSs X none false (defBody (top 32)) m__law_draws := by
  exact DSs.cons (S.own 1 (by decide +kernel) (DF.lst (DA.nil))) (DSs.cons (S.for Z.po (DI.seq (DE.sl (DE.db (S.var 0 (by decide +kernel))) (DO.non) (DO.sm (DE.db (DE.int))))) (S.nm 2 (by decide +kernel)) (DSs.cons (S.set 3 (by decide +kernel) (S.callB cd_abs (Z.fx.fr "abs" (by decide +kernel)) (by decide +kernel) (by decide +kernel) (DBA.cons (DE.db (S.var 2 (by decide +kernel))) (DBA.nil)))) (DSs.one (DS.ite (DT.cmp dGe_bl opd_ge rfl (DE.db (S.var 3 (by decide +kernel))) (DE.db (DE.bin opd_pow (DE.db (DE.int)) (DE.db (DE.int))))) (DSs.one (S.for Z.po (S.range1 (Z.fx.fr "range" (by decide +kernel)) (by decide +kernel) (DBA.cons (DE.db (DE.int)) (DBA.nil))) (S.nm 4 (by decide +kernel)) (DSs.one (DS.ite (DT.cmp dGt_bl opd_gt rfl (DE.db (S.var 3 (by decide +kernel))) (DE.db (DE.int))) (DSs.cons (S.app 1 (by decide +kernel) (DE.bin opd_mod (DE.db (S.callTy cd_int (Z.fx.fr "int" (by decide +kernel)) (by decide +kernel) (by decide +kernel) (DBA.cons (DE.db (S.var 3 (by decide +kernel))) (DBA.nil)))) (DE.db (DE.int)))) (DSs.one (S.set 3 (by decide +kernel) (DE.bin opd_fdiv (DE.db (S.var 3 (by decide +kernel))) (DE.db (DE.int)))))) (DSs.nil))))) (DSs.cons (S.set 5 (by decide +kernel) (DE.bin opd_mod (DE.db (S.callTy cd_int (Z.fx.fr "int" (by decide +kernel)) (by decide +kernel) (by decide +kernel) (DBA.cons (DE.db (DE.bin opd_add (DE.db (DE.bin opd_mul (DE.db (S.var 3 (by decide +kernel))) (DE.db (DE.int)))) (DE.db (DE.int)))) (DBA.nil)))) (DE.db (DE.int)))) (DSs.one (S.for Z.po (S.range1 (Z.fx.fr "range" (by decide +kernel)) (by decide +kernel) (DBA.cons (DE.db (DE.int)) (DBA.nil))) (S.nm 4 (by decide +kernel)) (DSs.cons (S.set 5 (by decide +kernel) (DE.bin opd_mod (DE.db (S.callTy cd_int (Z.fx.fr "int" (by decide +kernel)) (by decide +kernel) (by decide +kernel) (DBA.cons (DE.db (DE.bin opd_add (DE.db (DE.bin opd_add (DE.db (DE.bin opd_mul (DE.db (S.var 5 (by decide +kernel))) (DE.db (DE.int)))) (DE.db (DE.bin opd_mul (DE.db (DE.int)) (DE.db (S.var 4 (by decide +kernel))))))) (DE.db (DE.int)))) (DBA.nil)))) (DE.db (DE.int)))) (DSs.one (S.app 1 (by decide +kernel) (DE.bin opd_fdiv (DE.db (S.var 5 (by decide +kernel))) (DE.db (DE.int))))))))))))) (DSs.one (DS.fz 1 (DS.ret (S.var 1 (by decide +kernel))))))
theorem ok__law_draws {P : Program} {w : World} {M : Md} {base : Heap} {f : Addr} {fd : FuncData} (FD : FunD M.K "_law_draws" "_law_draws" (defArgs (top 32)) (defBody (top 32)) (defScope (top 32)) [] [] f fd) (hm : M.mg "_law_draws" = some (.ref f)) (hx : Fx P w M)  : DefOk P w M base 1 "_law_draws" F__law_draws :=
  DefOk.mk (N := N__law_draws) (ps := ["script"]) FD hm sc__law_draws (by decide) (FD.bindsN fun _ _ _ _ _ _ us hl => match us, hl with | [_], _ => rfl) fun X C S => ds__law_draws S (C.zx hx) 
/-! ### _law_more -/
noncomputable def m__law_more : SF := sSeq (sSet 2 (eBin dMod (eFn dInt (aCons (eBin dAdd (eBin dAdd (eBin dMul (eVar 1) (eK (.int 48271))) (eFn dLen (aCons (eVar 0) (aNil)))) (eK (.int 11))) (aNil))) (eK (.int 2147483629)))) (sSeq (sFor (iOf itR1 (aCons (eK (.int 3)) (aNil))) (.nm 3) (sSeq (sIf (tTru (eVar 0)) (sSet 2 (eBin dAdd (eVar 2) (eBin dIx (eVar 0) (eBin dMod (eFn dInt (aCons (eBin dAdd (eBin dMul (eVar 1) (eBin dAdd (eVar 3) (eK (.int 5)))) (eVar 3)) (aNil))) (eFn dLen (aCons (eVar 0) (aNil))))))) (sNil)) (sSet 2 (eBin dMod (eFn dInt (aCons (eBin dAdd (eBin dAdd (eBin dMul (eVar 2) (eK (.int 16807))) (eBin dMul (eK (.int 69621)) (eVar 3))) (eK (.int 5))) (aNil))) (eK (.int 2147483629)))))) (sRet (eBin dFdiv (eVar 2) (eK (.int 1009)))))
noncomputable def F__law_more : Fn := runF 2 4 m__law_more
def N__law_more : List Str := ["draws", "place", "mixed", "k"]
abbrev B__law_more : Blk := ⟨defScope (top 33), N__law_more, fun _ => true⟩
theorem sc__law_more : FnScope N__law_more ["draws", "place"] (defScope (top 33)) := ⟨rfl, rfl, rfl, by decide +kernel, rfl, by decide +kernel, by decide +kernel⟩
theorem ds__law_more {X : Cx} (S : ScX X B__law_more) (Z : Zx Fx X)  : DSs X none false (defBody (top 33)) m__law_more := by
  exact DSs.cons (S.set 2 (by decide +kernel) (DE.bin opd_mod (DE.db (S.callTy cd_int (Z.fx.fr "int" (by decide +kernel)) (by decide +kernel) (by decide +kernel) (DBA.cons (DE.db (DE.bin opd_add (DE.db (DE.bin opd_add (DE.db (DE.bin opd_mul (DE.db (S.var 1 (by decide +kernel))) (DE.db (DE.int)))) (DE.db (S.callB cd_len (Z.fx.fr "len" (by decide +kernel)) (by decide +kernel) (by decide +kernel) (DBA.cons (DE.db (S.var 0 (by decide +kernel))) (DBA.nil)))))) (DE.db (DE.int)))) (DBA.nil)))) (DE.db (DE.int)))) (DSs.cons (S.for Z.po (S.range1 (Z.fx.fr "range" (by decide +kernel)) (by decide +kernel) (DBA.cons (DE.db (DE.int)) (DBA.nil))) (S.nm 3 (by decide +kernel)) (DSs.cons (DS.ite (DT.tru (DE.db (S.var 0 (by decide +kernel))) (fun _ => rfl)) (DSs.one (S.set 2 (by decide +kernel) (DE.bin opd_add (DE.db (S.var 2 (by decide +kernel))) (DE.db (DE.ix ixd (fun _ _ => rfl) (DE.db (S.var 0 (by decide +kernel))) (DE.db (DE.bin opd_mod (DE.db (S.callTy cd_int (Z.fx.fr "int" (by decide +kernel)) (by decide +kernel) (by decide +kernel) (DBA.cons (DE.db (DE.bin opd_add (DE.db (DE.bin opd_mul (DE.db (S.var 1 (by decide +kernel))) (DE.db (DE.bin opd_add (DE.db (S.var 3 (by decide +kernel))) (DE.db (DE.int)))))) (DE.db (S.var 3 (by decide +kernel))))) (DBA.nil)))) (DE.db (S.callB cd_len (Z.fx.fr "len" (by decide +kernel)) (by decide +kernel) (by decide +kernel) (DBA.cons (DE.db (S.var 0 (by decide +kernel))) (DBA.nil))))))))))) (DSs.nil)) (DSs.one (S.set 2 (by decide +kernel) (DE.bin opd_mod (DE.db (S.callTy cd_int (Z.fx.fr "int" (by decide +kernel)) (by decide +kernel) (by decide +kernel) (DBA.cons (DE.db (DE.bin opd_add (DE.db (DE.bin opd_add (DE.db (DE.bin opd_mul (DE.db (S.var 2 (by decide +kernel))) (DE.db (DE.int)))) (DE.db (DE.bin opd_mul (DE.db (DE.int)) (DE.db (S.var 3 (by decide +kernel))))))) (DE.db (DE.int)))) (DBA.nil)))) (DE.db (DE.int))))))) (DSs.one (DS.ret (DE.bin opd_fdiv (DE.db (S.var 2 (by decide +kernel))) (DE.db (DE.int))))))
theorem ok__law_more {P : Program} {w : World} {M : Md} {base : Heap} {f : Addr} {fd : FuncData} (FD : FunD M.K "_law_more" "_law_more" (defArgs (top 33)) (defBody (top 33)) (defScope (top 33)) [] [] f fd) (hm : M.mg "_law_more" = some (.ref f)) (hx : Fx P w M)  : DefOk P w M base 1 "_law_more" F__law_more :=
  DefOk.mk (N := N__law_more) (ps := ["draws", "place"]) FD hm sc__law_more (by decide) (FD.bindsN fun _ _ _ _ _ _ us hl => match us, hl with | [_, _], _ => rfl) fun X C S => ds__law_more S (C.zx hx) 
/-! ### _law_limits_right -/
noncomputable def m__law_limits_right : SF := sSeq (sSet 0 (eLst (aCons (eK k_MAX_NUMBER) (aCons (eK k_MAX_BITS) (aCons (eK k_MAX_DEPTH) (aCons (eK k_MAX_GATES) (aCons (eK k_MAX_TEXT) (aCons (eK k_MAX_LINES) (aCons (eK k_MAX_TS) (aCons (eK k_MAX_LETTERS) (aCons (eK k_MAX_SIGN_WORDS) (aNil)))))))))))) (sSeq (sSet 0 (eBin dAdd (eVar 0) (eLst (aCons (eK k_MAX_SIGN_GROUP) (aCons (eK k_MAX_MIXED) (aCons (eK k_MAX_TURNED) (aCons (eK k_MAX_RING) (aCons (eK k_MAX_WALKED) (aCons (eK k_MAX_CODED) (aCons (eK k_MAX_THINGS) (aCons (eK k_MAX_GRAPH) (aCons (eK k_MAX_ALIKE) (aNil))))))))))))) (sSeq (sSet 0 (eBin dAdd (eVar 0) (eLst (aCons (eK k_MAX_TABLES) (aCons (eK k_MAX_NOISY) (aCons (eK k_MAX_PLAIN) (aNil))))))) (sSeq (sSet 1 (eLst (aCons (eK (.int 1000000)) (aCons (eK (.int 4)) (aCons (eK (.int 40)) (aCons (eK (.int 60)) (aCons (eK (.int 6000)) (aCons (eK (.int 200)) (aCons (eK (.int 30)) (aCons (eK (.int 8)) (aCons (eK (.int 16)) (aCons (eK (.int 1024)) (aCons (eK (.int 3)) (aCons (eK (.int 3)) (aCons (eK (.int 12)) (aCons (eK (.int 20)) (aCons (eK (.int 7)) (aCons (eK (.int 40)) (aCons (eK (.int 8)) (aCons (eK (.int 400)) (aCons (eK (.int 16)) (aCons (eK (.int 5)) (aCons (eK (.int 3)) (aNil)))))))))))))))))))))))) (sRet (eBin dEq (eFn dRepr (aCons (eVar 0) (aNil))) (eFn dRepr (aCons (eVar 1) (aNil))))))))
noncomputable def F__law_limits_right : Fn := runF 0 2 m__law_limits_right
def N__law_limits_right : List Str := ["told", "due"]
abbrev B__law_limits_right : Blk := ⟨defScope (top 36), N__law_limits_right, fun _ => true⟩
theorem sc__law_limits_right : FnScope N__law_limits_right [] (defScope (top 36)) := ⟨rfl, rfl, rfl, by decide +kernel, rfl, by decide +kernel, by decide +kernel⟩
theorem ds__law_limits_right {X : Cx} (S : ScX X B__law_limits_right) (Z : Zx Fx X)  : DSs X none false (defBody (top 36)) m__law_limits_right := by
  exact DSs.cons (S.set 0 (by decide +kernel) (DE.lst (DA.cons (S.glob Z.fx.g_MAX_NUMBER (by decide +kernel)) (DA.cons (S.glob Z.fx.g_MAX_BITS (by decide +kernel)) (DA.cons (S.glob Z.fx.g_MAX_DEPTH (by decide +kernel)) (DA.cons (S.glob Z.fx.g_MAX_GATES (by decide +kernel)) (DA.cons (S.glob Z.fx.g_MAX_TEXT (by decide +kernel)) (DA.cons (S.glob Z.fx.g_MAX_LINES (by decide +kernel)) (DA.cons (S.glob Z.fx.g_MAX_TS (by decide +kernel)) (DA.cons (S.glob Z.fx.g_MAX_LETTERS (by decide +kernel)) (DA.cons (S.glob Z.fx.g_MAX_SIGN_WORDS (by decide +kernel)) (DA.nil)))))))))))) (DSs.cons (S.set 0 (by decide +kernel) (DE.bin opd_add (DE.db (S.var 0 (by decide +kernel))) (DE.db (DE.lst (DA.cons (S.glob Z.fx.g_MAX_SIGN_GROUP (by decide +kernel)) (DA.cons (S.glob Z.fx.g_MAX_MIXED (by decide +kernel)) (DA.cons (S.glob Z.fx.g_MAX_TURNED (by decide +kernel)) (DA.cons (S.glob Z.fx.g_MAX_RING (by decide +kernel)) (DA.cons (S.glob Z.fx.g_MAX_WALKED (by decide +kernel)) (DA.cons (S.glob Z.fx.g_MAX_CODED (by decide +kernel)) (DA.cons (S.glob Z.fx.g_MAX_THINGS (by decide +kernel)) (DA.cons (S.glob Z.fx.g_MAX_GRAPH (by decide +kernel)) (DA.cons (S.glob Z.fx.g_MAX_ALIKE (by decide +kernel)) (DA.nil)))))))))))))) (DSs.cons (S.set 0 (by decide +kernel) (DE.bin opd_add (DE.db (S.var 0 (by decide +kernel))) (DE.db (DE.lst (DA.cons (S.glob Z.fx.g_MAX_TABLES (by decide +kernel)) (DA.cons (S.glob Z.fx.g_MAX_NOISY (by decide +kernel)) (DA.cons (S.glob Z.fx.g_MAX_PLAIN (by decide +kernel)) (DA.nil)))))))) (DSs.cons (S.set 1 (by decide +kernel) (DE.lst (DA.cons (DE.int) (DA.cons (DE.int) (DA.cons (DE.int) (DA.cons (DE.int) (DA.cons (DE.int) (DA.cons (DE.int) (DA.cons (DE.int) (DA.cons (DE.int) (DA.cons (DE.int) (DA.cons (DE.int) (DA.cons (DE.int) (DA.cons (DE.int) (DA.cons (DE.int) (DA.cons (DE.int) (DA.cons (DE.int) (DA.cons (DE.int) (DA.cons (DE.int) (DA.cons (DE.int) (DA.cons (DE.int) (DA.cons (DE.int) (DA.cons (DE.int) (DA.nil)))))))))))))))))))))))) (DSs.one (DS.ret (DE.cmp (opd_eq Z.un) rfl (DE.db (S.callB (cd_repr Z.gd Z.un) (Z.fx.fr "repr" (by decide +kernel)) (by decide +kernel) (by decide +kernel) (DBA.cons (DE.db (S.var 0 (by decide +kernel))) (DBA.nil)))) (DE.db (S.callB (cd_repr Z.gd Z.un) (Z.fx.fr "repr" (by decide +kernel)) (by decide +kernel) (by decide +kernel) (DBA.cons (DE.db (S.var 1 (by decide +kernel))) (DBA.nil))))))))))
theorem ok__law_limits_right {P : Program} {w : World} {M : Md} {base : Heap} {f : Addr} {fd : FuncData} (FD : FunD M.K "_law_limits_right" "_law_limits_right" (defArgs (top 36)) (defBody (top 36)) (defScope (top 36)) [] [] f fd) (hm : M.mg "_law_limits_right" = some (.ref f)) (hx : Fx P w M)  : DefOk P w M base 1 "_law_limits_right" F__law_limits_right :=
  DefOk.mk (N := N__law_limits_right) (ps := []) FD hm sc__law_limits_right (by decide) (FD.bindsN fun _ _ _ _ _ _ us hl => match us, hl with | [], _ => rfl) fun X C S => ds__law_limits_right S (C.zx hx) 
/-! ### _law_raise -/
noncomputable def m__law_raise : SF := sSeq (sIf (tTru (eBin dEq (eVar 0) (eK (.int 0)))) (sRaise "ArgumentError" "reason" (eVar 1)) (sNil)) (sSeq (sIf (tTru (eBin dEq (eVar 0) (eK (.int 1)))) (sRaise "PaperError" "reason" (eVar 1)) (sNil)) (sSeq (sIf (tTru (eBin dEq (eVar 0) (eK (.int 2)))) (sRaise "TooMany" "reason" (eVar 1)) (sNil)) (sSeq (sIf (tTru (eBin dEq (eVar 0) (eK (.int 3)))) (sRaise "CheckError" "reason" (eVar 1)) (sNil)) (sSeq (sIf (tTru (eBin dEq (eVar 0) (eK (.int 4)))) (sRaise "TextError" "at" (eVar 1)) (sNil)) (sSeq (sIf (tTru (eBin dEq (eVar 0) (eK (.int 5)))) (sRaise2 "LogError" "number" "reason" (eVar 1) (eVar 2)) (sNil)) (sRaise "CommandError" "line" (eVar 1)))))))
noncomputable def F__law_raise : Fn := runF 3 3 m__law_raise
def N__law_raise : List Str := ["k", "one", "other"]
abbrev B__law_raise : Blk := ⟨defScope (top 37), N__law_raise, fun _ => true⟩
theorem sc__law_raise : FnScope N__law_raise ["k", "one", "other"] (defScope (top 37)) := ⟨rfl, rfl, rfl, by decide +kernel, rfl, by decide +kernel, by decide +kernel⟩
theorem ds__law_raise {X : Cx} (S : ScX X B__law_raise) (Z : Zx Fx X)  : DSs X none false (defBody (top 37)) m__law_raise := by
  exact DSs.cons (DS.ite (DT.cmp dEq_bl (opd_eq Z.un) rfl (DE.db (S.var 0 (by decide +kernel))) (DE.db (DE.int))) (DSs.one (S.raise (Z.err Z.fx.e_ArgumentError) (by decide +kernel) (S.var 1 (by decide +kernel)))) (DSs.nil)) (DSs.cons (DS.ite (DT.cmp dEq_bl (opd_eq Z.un) rfl (DE.db (S.var 0 (by decide +kernel))) (DE.db (DE.int))) (DSs.one (S.raise (Z.err Z.fx.e_PaperError) (by decide +kernel) (S.var 1 (by decide +kernel)))) (DSs.nil)) (DSs.cons (DS.ite (DT.cmp dEq_bl (opd_eq Z.un) rfl (DE.db (S.var 0 (by decide +kernel))) (DE.db (DE.int))) (DSs.one (S.raise (Z.err Z.fx.e_TooMany) (by decide +kernel) (S.var 1 (by decide +kernel)))) (DSs.nil)) (DSs.cons (DS.ite (DT.cmp dEq_bl (opd_eq Z.un) rfl (DE.db (S.var 0 (by decide +kernel))) (DE.db (DE.int))) (DSs.one (S.raise (Z.err Z.fx.e_CheckError) (by decide +kernel) (S.var 1 (by decide +kernel)))) (DSs.nil)) (DSs.cons (DS.ite (DT.cmp dEq_bl (opd_eq Z.un) rfl (DE.db (S.var 0 (by decide +kernel))) (DE.db (DE.int))) (DSs.one (S.raise (Z.err Z.fx.e_TextError) (by decide +kernel) (S.var 1 (by decide +kernel)))) (DSs.nil)) (DSs.cons (DS.ite (DT.cmp dEq_bl (opd_eq Z.un) rfl (DE.db (S.var 0 (by decide +kernel))) (DE.db (DE.int))) (DSs.one (S.raise2 (Z.err2 Z.fx.e2_LogError) (by decide +kernel) (S.var 1 (by decide +kernel)) (S.var 2 (by decide +kernel)))) (DSs.nil)) (DSs.one (S.raise (Z.err Z.fx.e_CommandError) (by decide +kernel) (S.var 1 (by decide +kernel)))))))))
theorem ok__law_raise {P : Program} {w : World} {M : Md} {base : Heap} {f : Addr} {fd : FuncData} (FD : FunD M.K "_law_raise" "_law_raise" (defArgs (top 37)) (defBody (top 37)) (defScope (top 37)) [] [] f fd) (hm : M.mg "_law_raise" = some (.ref f)) (hx : Fx P w M)  : DefOk P w M base 1 "_law_raise" F__law_raise :=
  DefOk.mk (N := N__law_raise) (ps := ["k", "one", "other"]) FD hm sc__law_raise (by decide) (FD.bindsN fun _ _ _ _ _ _ us hl => match us, hl with | [_, _, _], _ => rfl) fun X C S => ds__law_raise S (C.zx hx) 
/-! ### _law_kinds -/
noncomputable def m__law_kinds : SF := sSeq (sSet 1 (eLst (aCons (eXis errs is_ArgumentError 0) (aCons (eXis errs is_PaperError 0) (aCons (eXis errs is_TooMany 0) (aCons (eXis errs is_CheckError 0) (aNil))))))) (sRet (eBin dAdd (eVar 1) (eLst (aCons (eXis errs is_TextError 0) (aCons (eXis errs is_LogError 0) (aCons (eXis errs is_CommandError 0) (aNil)))))))
noncomputable def F__law_kinds : FnE := runX 1 m__law_kinds
def N__law_kinds : List Str := ["e", "plain"]
theorem sc__law_kinds : FnScope N__law_kinds ["e"] (defScope (top 38)) := ⟨rfl, rfl, rfl, by decide +kernel, rfl, by decide +kernel, by decide +kernel⟩
theorem ds__law_kinds {X : Cx} {P : Program} {w : World} {M : Md} {base : Heap} {a : Addr} {oe : Obj} {cls : Value} {d : Option Addr} (C : CnX X P w M base (defScope (top 38)) N__law_kinds (a, oe)) (hx : Fx P w M) (hz : Zc cls d oe) (hf : ∃ vs, oe.data = .fields vs) : DSs X (some (a, cls, d)) false (defBody (top 38)) m__law_kinds := by
  have hmd : M = X.md := C.md.symm
  have hmg : M.mg = X.mg := C.mg.symm
  exact DSs.cons (DS.set 1 C.nd (C.tgt 1 (by decide +kernel)).1 (C.tgt 1 (by decide +kernel)).2.1 (DF.de (DF.lst (DA.cons (DE.xisX (c := "ArgumentError") 0 C.pn (hmd ▸ hx.is_ArgumentError) (hmg ▸ hx.fr "isinstance" (by decide +kernel)) (C.gl (by decide +kernel)).1 (C.gl (by decide +kernel)).1 (C.gl (by decide +kernel)).2 hz hf (C.var 0 (by decide +kernel)).1 (C.var 0 (by decide +kernel)).2.1 (C.var 0 (by decide +kernel)).2.2) (DA.cons (DE.xisX (c := "PaperError") 0 C.pn (hmd ▸ hx.is_PaperError) (hmg ▸ hx.fr "isinstance" (by decide +kernel)) (C.gl (by decide +kernel)).1 (C.gl (by decide +kernel)).1 (C.gl (by decide +kernel)).2 hz hf (C.var 0 (by decide +kernel)).1 (C.var 0 (by decide +kernel)).2.1 (C.var 0 (by decide +kernel)).2.2) (DA.cons (DE.xisX (c := "TooMany") 0 C.pn (hmd ▸ hx.is_TooMany) (hmg ▸ hx.fr "isinstance" (by decide +kernel)) (C.gl (by decide +kernel)).1 (C.gl (by decide +kernel)).1 (C.gl (by decide +kernel)).2 hz hf (C.var 0 (by decide +kernel)).1 (C.var 0 (by decide +kernel)).2.1 (C.var 0 (by decide +kernel)).2.2) (DA.cons (DE.xisX (c := "CheckError") 0 C.pn (hmd ▸ hx.is_CheckError) (hmg ▸ hx.fr "isinstance" (by decide +kernel)) (C.gl (by decide +kernel)).1 (C.gl (by decide +kernel)).1 (C.gl (by decide +kernel)).2 hz hf (C.var 0 (by decide +kernel)).1 (C.var 0 (by decide +kernel)).2.1 (C.var 0 (by decide +kernel)).2.2) (DA.nil))))))) rfl (C.tgt 1 (by decide +kernel)).2.2) (DSs.one (DS.ret (DE.bin opd_add (DE.db (DE.var 1 (C.var 1 (by decide +kernel)).1 (C.var 1 (by decide +kernel)).2.1 (C.var 1 (by decide +kernel)).2.2)) (DE.db (DF.de (DF.lst (DA.cons (DE.xisX (c := "TextError") 0 C.pn (hmd ▸ hx.is_TextError) (hmg ▸ hx.fr "isinstance" (by decide +kernel)) (C.gl (by decide +kernel)).1 (C.gl (by decide +kernel)).1 (C.gl (by decide +kernel)).2 hz hf (C.var 0 (by decide +kernel)).1 (C.var 0 (by decide +kernel)).2.1 (C.var 0 (by decide +kernel)).2.2) (DA.cons (DE.xisX (c := "LogError") 0 C.pn (hmd ▸ hx.is_LogError) (hmg ▸ hx.fr "isinstance" (by decide +kernel)) (C.gl (by decide +kernel)).1 (C.gl (by decide +kernel)).1 (C.gl (by decide +kernel)).2 hz hf (C.var 0 (by decide +kernel)).1 (C.var 0 (by decide +kernel)).2.1 (C.var 0 (by decide +kernel)).2.2) (DA.cons (DE.xisX (c := "CommandError") 0 C.pn (hmd ▸ hx.is_CommandError) (hmg ▸ hx.fr "isinstance" (by decide +kernel)) (C.gl (by decide +kernel)).1 (C.gl (by decide +kernel)).1 (C.gl (by decide +kernel)).2 hz hf (C.var 0 (by decide +kernel)).1 (C.var 0 (by decide +kernel)).2.1 (C.var 0 (by decide +kernel)).2.2) (DA.nil))))))))))
theorem ok__law_kinds {P : Program} {w : World} {M : Md} {base : Heap} {f : Addr} {fd : FuncData} (FD : FunD M.K "_law_kinds" "_law_kinds" (defArgs (top 38)) (defBody (top 38)) (defScope (top 38)) [] [] f fd) (hm : M.mg "_law_kinds" = some (.ref f)) (hx : Fx P w M) : XDefOk P w M base 1 "_law_kinds" F__law_kinds :=
  ⟨f, fd, "e", fnX_of (k := 0) FD sc__law_kinds (by decide) (fun _ _ _ _ _ C hz hf => ds__law_kinds C hx hz hf), hm, FD.kp, FD.bindsN fun _ _ _ _ _ _ us hl => match us, hl with | [_], _ => rfl⟩
/-! ### _law_take -/
noncomputable def m__law_take : SF := sSeq (sSet 3 (eCell 1)) (sSeq (sCell 1 (eBin dAdd (eVar 3) (eK (.int 1)))) (sRet (eBin dMod (eFn dInt (aCons (eIf (tTru (eBin dLt (eVar 3) (eFn dLen (aCons (eVar 0) (aNil))))) (eBin dIx (eVar 0) (eVar 3)) (eCall F__law_more (aCons (eVar 0) (aCons (eVar 3) (aNil))))) (aNil))) (eVar 2))))
noncomputable def F__law_take : Fn := runF 3 4 m__law_take
def N__law_take : List Str := ["draws", "at", "many", "place"]
abbrev B__law_take : Blk := ⟨defScope (top 34), N__law_take, fun _ => true⟩
theorem sc__law_take : FnScope N__law_take ["draws", "at", "many"] (defScope (top 34)) := ⟨rfl, rfl, rfl, by decide +kernel, rfl, by decide +kernel, by decide +kernel⟩
theorem ds__law_take {X : Cx} (S : ScX X B__law_take) (Z : Zx Fx X) (C__law_more : CallOk X "_law_more" F__law_more) : DSs X none false (defBody (top 34)) m__law_take := by
  exact DSs.cons (S.set 3 (by decide +kernel) (S.cellGet 1 (by decide +kernel))) (DSs.cons (S.cellSet 1 (by decide +kernel) (DE.bin opd_add (DE.db (S.var 3 (by decide +kernel))) (DE.db (DE.int)))) (DSs.one (DS.ret (DE.bin opd_mod (DE.db (S.callTy cd_int (Z.fx.fr "int" (by decide +kernel)) (by decide +kernel) (by decide +kernel) (DBA.cons (DE.db (DE.ifExp (DT.cmp dLt_bl opd_lt rfl (DE.db (S.var 3 (by decide +kernel))) (DE.db (S.callB cd_len (Z.fx.fr "len" (by decide +kernel)) (by decide +kernel) (by decide +kernel) (DBA.cons (DE.db (S.var 0 (by decide +kernel))) (DBA.nil))))) (DE.ix ixd (fun _ _ => rfl) (DE.db (S.var 0 (by decide +kernel))) (DE.db (S.var 3 (by decide +kernel)))) (S.call (C__law_more) (by decide +kernel) (DA.cons (S.var 0 (by decide +kernel)) (DA.cons (S.var 3 (by decide +kernel)) (DA.nil)))))) (DBA.nil)))) (DE.db (S.var 2 (by decide +kernel)))))))
theorem ok__law_take {P : Program} {w : World} {M : Md} {base : Heap} {f : Addr} {fd : FuncData} (FD : FunD M.K "_law_take" "_law_take" (defArgs (top 34)) (defBody (top 34)) (defScope (top 34)) [] [] f fd) (hm : M.mg "_law_take" = some (.ref f)) (hx : Fx P w M) (h__law_more : DefOk P w M base 1 "_law_more" F__law_more) : DefOk P w M base 2 "_law_take" F__law_take :=
  DefOk.mk (N := N__law_take) (ps := ["draws", "at", "many"]) FD hm sc__law_take (by decide) (FD.bindsN fun _ _ _ _ _ _ us hl => match us, hl with | [_, _, _], _ => rfl) fun X C S => ds__law_take S (C.zx hx) (C.ok h__law_more (by decide))
/-! ### _law_caught -/
noncomputable def m__law_caught : SF := sSeq (sTry sub (sDrop (eCall F__law_raise (aCons (eVar 0) (aCons (eVar 1) (aCons (eVar 2) (aNil)))))) [("StateError", some 3, sRet (eIf (tTru (eXis errsU is_VE 3)) (eCallX F__law_kinds 3) (eLst (aNil))))]) (sRet (eLst (aNil)))
noncomputable def F__law_caught : Fn := runF 3 4 m__law_caught
def N__law_caught : List Str := ["k", "one", "other", "e"]
abbrev B__law_caught : Blk := ⟨defScope (top 39), N__law_caught, fun _ => true⟩
theorem sc__law_caught : FnScope N__law_caught ["k", "one", "other"] (defScope (top 39)) := ⟨rfl, rfl, rfl, by decide +kernel, rfl, by decide +kernel, by decide +kernel⟩
theorem ds__law_caught {X : Cx} (S : ScX X B__law_caught) (Z : Zx Fx X) (C__law_kinds : CallX X "_law_kinds" F__law_kinds) (C__law_raise : CallOk X "_law_raise" F__law_raise) : DSs X none false (defBody (top 39)) m__law_caught := by
  exact DSs.cons (S.try_ Z.stk Z.frm Z.fx.tb (fun pn xe po => DSs.one (DS.drop ((S.tr pn xe).call ((C__law_raise).tr pn xe) (by decide +kernel) (DA.cons ((S.tr pn xe).var 0 (by decide +kernel)) (DA.cons ((S.tr pn xe).var 1 (by decide +kernel)) (DA.cons ((S.tr pn xe).var 2 (by decide +kernel)) (DA.nil))))) rfl)) (HsD.asC (i := 3) S Z.fx.c_StateError (by decide +kernel) (by decide +kernel) (by decide +kernel) (fun a oe cls dd pn hz hf => DSs.one (DS.ret (DE.ifExp (DT.tru (DE.db (ScV.xisB S 3 (c0 := "ArgumentError") Z.fx.is_ArgumentError (tb_ve Z.fx) (Z.fx.fr "ValueError" (by decide +kernel)) (by decide +kernel) (Z.fx.fr "isinstance" (by decide +kernel)) (by decide +kernel) (by decide +kernel) hz hf (by decide +kernel))) (fun _ => rfl)) (ScV.callX S 3 C__law_kinds hz hf (by decide +kernel) (by decide +kernel)) (DE.lst (DA.nil))))) (HsD.nil))) (DSs.one (DS.ret (DE.lst (DA.nil))))
theorem ok__law_caught {P : Program} {w : World} {M : Md} {base : Heap} {f : Addr} {fd : FuncData} (FD : FunD M.K "_law_caught" "_law_caught" (defArgs (top 39)) (defBody (top 39)) (defScope (top 39)) [] [] f fd) (hm : M.mg "_law_caught" = some (.ref f)) (hx : Fx P w M) (h__law_kinds : XDefOk P w M base 1 "_law_kinds" F__law_kinds) (h__law_raise : DefOk P w M base 1 "_law_raise" F__law_raise) : DefOk P w M base 2 "_law_caught" F__law_caught :=
  DefOk.mk (N := N__law_caught) (ps := ["k", "one", "other"]) FD hm sc__law_caught (by decide) (FD.bindsN fun _ _ _ _ _ _ us hl => match us, hl with | [_, _, _], _ => rfl) fun X C S => ds__law_caught S (C.zx hx) (C.okX h__law_kinds (by decide)) (C.ok h__law_raise (by decide))
/-! ### _law_fields -/
noncomputable def m__law_fields : SF := sSeq (sTry sub (sDrop (eCall F__law_raise (aCons (eVar 0) (aCons (eVar 1) (aCons (eVar 2) (aNil)))))) [("ArgumentError", some 3, sRet (eTup (aCons (eXat errs_reason 3 "reason") (aNil)))), ("PaperError", some 3, sRet (eTup (aCons (eXat errs_reason 3 "reason") (aNil)))), ("TooMany", some 3, sRet (eTup (aCons (eXat errs_reason 3 "reason") (aNil)))), ("CheckError", some 3, sRet (eTup (aCons (eXat errs_reason 3 "reason") (aNil)))), ("TextError", some 3, sRet (eTup (aCons (eXat errs_at 3 "at") (aNil)))), ("LogError", some 3, sRet (eTup (aCons (eXat errs_number 3 "number") (aCons (eXat errs_reason 3 "reason") (aNil))))), ("CommandError", some 3, sRet (eTup (aCons (eXat errs_line 3 "line") (aNil))))]) (sRet (eK .non))
noncomputable def F__law_fields : Fn := runF 3 4 m__law_fields
def N__law_fields : List Str := ["k", "one", "other", "e"]
abbrev B__law_fields : Blk := ⟨defScope (top 40), N__law_fields, fun _ => true⟩
theorem sc__law_fields : FnScope N__law_fields ["k", "one", "other"] (defScope (top 40)) := ⟨rfl, rfl, rfl, by decide +kernel, rfl, by decide +kernel, by decide +kernel⟩
theorem ds__law_fields {X : Cx} (S : ScX X B__law_fields) (Z : Zx Fx X) (C__law_raise : CallOk X "_law_raise" F__law_raise) : DSs X none false (defBody (top 40)) m__law_fields := by
  exact DSs.cons (S.try_ Z.stk Z.frm Z.fx.tb (fun pn xe po => DSs.one (DS.drop ((S.tr pn xe).call ((C__law_raise).tr pn xe) (by decide +kernel) (DA.cons ((S.tr pn xe).var 0 (by decide +kernel)) (DA.cons ((S.tr pn xe).var 1 (by decide +kernel)) (DA.cons ((S.tr pn xe).var 2 (by decide +kernel)) (DA.nil))))) rfl)) (HsD.as' (i := 3) S Z.fx.e_ArgumentError (by decide +kernel) (by decide +kernel) (by decide +kernel) (fun a oe cls dd pn hz hf => DSs.one (DS.ret (DE.tup (DA.cons (ScV.xat S 3 Z.fx.fl_reason hz hf (by decide +kernel)) (DA.nil))))) (HsD.as' (i := 3) S Z.fx.e_PaperError (by decide +kernel) (by decide +kernel) (by decide +kernel) (fun a oe cls dd pn hz hf => DSs.one (DS.ret (DE.tup (DA.cons (ScV.xat S 3 Z.fx.fl_reason hz hf (by decide +kernel)) (DA.nil))))) (HsD.as' (i := 3) S Z.fx.e_TooMany (by decide +kernel) (by decide +kernel) (by decide +kernel) (fun a oe cls dd pn hz hf => DSs.one (DS.ret (DE.tup (DA.cons (ScV.xat S 3 Z.fx.fl_reason hz hf (by decide +kernel)) (DA.nil))))) (HsD.as' (i := 3) S Z.fx.e_CheckError (by decide +kernel) (by decide +kernel) (by decide +kernel) (fun a oe cls dd pn hz hf => DSs.one (DS.ret (DE.tup (DA.cons (ScV.xat S 3 Z.fx.fl_reason hz hf (by decide +kernel)) (DA.nil))))) (HsD.as' (i := 3) S Z.fx.e_TextError (by decide +kernel) (by decide +kernel) (by decide +kernel) (fun a oe cls dd pn hz hf => DSs.one (DS.ret (DE.tup (DA.cons (ScV.xat S 3 Z.fx.fl_at hz hf (by decide +kernel)) (DA.nil))))) (HsD.asC (i := 3) S Z.fx.c_LogError (by decide +kernel) (by decide +kernel) (by decide +kernel) (fun a oe cls dd pn hz hf => DSs.one (DS.ret (DE.tup (DA.cons (ScV.xat S 3 Z.fx.fl_number hz hf (by decide +kernel)) (DA.cons (ScV.xat S 3 Z.fx.fl_reason hz hf (by decide +kernel)) (DA.nil)))))) (HsD.as' (i := 3) S Z.fx.e_CommandError (by decide +kernel) (by decide +kernel) (by decide +kernel) (fun a oe cls dd pn hz hf => DSs.one (DS.ret (DE.tup (DA.cons (ScV.xat S 3 Z.fx.fl_line hz hf (by decide +kernel)) (DA.nil))))) (HsD.nil))))))))) (DSs.one (DS.ret (DE.non)))
theorem ok__law_fields {P : Program} {w : World} {M : Md} {base : Heap} {f : Addr} {fd : FuncData} (FD : FunD M.K "_law_fields" "_law_fields" (defArgs (top 40)) (defBody (top 40)) (defScope (top 40)) [] [] f fd) (hm : M.mg "_law_fields" = some (.ref f)) (hx : Fx P w M) (h__law_raise : DefOk P w M base 1 "_law_raise" F__law_raise) : DefOk P w M base 2 "_law_fields" F__law_fields :=
  DefOk.mk (N := N__law_fields) (ps := ["k", "one", "other"]) FD hm sc__law_fields (by decide) (FD.bindsN fun _ _ _ _ _ _ us hl => match us, hl with | [_, _, _], _ => rfl) fun X C S => ds__law_fields S (C.zx hx) (C.ok h__law_raise (by decide))
/-! ### _law_one -/
noncomputable def m__law_one : SF := sRet (eBin dIx (eVar 0) (eCall F__law_take (aCons (eVar 1) (aCons (eVar 2) (aCons (eFn dLen (aCons (eVar 0) (aNil))) (aNil))))))
noncomputable def F__law_one : Fn := runF 3 3 m__law_one
def N__law_one : List Str := ["rows", "draws", "at"]
abbrev B__law_one : Blk := ⟨defScope (top 35), N__law_one, fun _ => true⟩
theorem sc__law_one : FnScope N__law_one ["rows", "draws", "at"] (defScope (top 35)) := ⟨rfl, rfl, rfl, by decide +kernel, rfl, by decide +kernel, by decide +kernel⟩
theorem ds__law_one {X : Cx} (S : ScX X B__law_one) (Z : Zx Fx X) (C__law_take : CallOk X "_law_take" F__law_take) : DSs X none false (defBody (top 35)) m__law_one := by
  exact DSs.one (DS.ret (DE.ix ixd (fun _ _ => rfl) (DE.db (S.var 0 (by decide +kernel))) (DE.db (S.call (C__law_take) (by decide +kernel) (DA.cons (S.var 1 (by decide +kernel)) (DA.cons (S.var 2 (by decide +kernel)) (DA.cons (S.callB cd_len (Z.fx.fr "len" (by decide +kernel)) (by decide +kernel) (by decide +kernel) (DBA.cons (DE.db (S.var 0 (by decide +kernel))) (DBA.nil))) (DA.nil))))))))
theorem ok__law_one {P : Program} {w : World} {M : Md} {base : Heap} {f : Addr} {fd : FuncData} (FD : FunD M.K "_law_one" "_law_one" (defArgs (top 35)) (defBody (top 35)) (defScope (top 35)) [] [] f fd) (hm : M.mg "_law_one" = some (.ref f)) (hx : Fx P w M) (h__law_take : DefOk P w M base 2 "_law_take" F__law_take) : DefOk P w M base 3 "_law_one" F__law_one :=
  DefOk.mk (N := N__law_one) (ps := ["rows", "draws", "at"]) FD hm sc__law_one (by decide) (FD.bindsN fun _ _ _ _ _ _ us hl => match us, hl with | [_, _, _], _ => rfl) fun X C S => ds__law_one S (C.zx hx) (C.ok h__law_take (by decide))
/-! ### law -/
noncomputable def b_law_1 : DW.SF := sSeq (sPar [5, 6] [(false, eCall F__law_one (aCons (eVar 3) (aCons (eVar 1) (aCons (eVar 2) (aNil))))), (false, eCall F__law_one (aCons (eVar 3) (aCons (eVar 1) (aCons (eVar 2) (aNil)))))]) (sSeq (sIf (tTru (eBin dNe (eCall F__law_caught (aCons (eVar 4) (aCons (eVar 5) (aCons (eVar 6) (aNil))))) (eLc (iOf itR1 (aCons (eK (.int 7)) (aNil))) (.nm 7) (tYesD) (eBin dEq (eVar 7) (eVar 4)) [7]))) (sRet (eK (.bl false))) (sNil)) (sIf (tTru (eBin dNe (eFn dRepr (aCons (eCall F__law_fields (aCons (eVar 4) (aCons (eVar 5) (aCons (eVar 6) (aNil))))) (aNil))) (eFn dRepr (aCons (eIf (tTru (eBin dEq (eVar 4) (eK (.int 5)))) (eTup (aCons (eVar 5) (aCons (eVar 6) (aNil)))) (eTup (aCons (eVar 5) (aNil)))) (aNil))))) (sRet (eK (.bl false))) (sNil)))
noncomputable def m_law : SF := sSeq (sSet 1 (eCall F__law_draws (aCons (eVar 0) (aNil)))) (sNewCell 2 0 (sSeq (sIf (tNot (tTru (eCall F__law_limits_right aNil))) (sRet (eK (.bl false))) (sNil)) (sSeq (sSet 3 (eLst (aCons (eK (.str "word")) (aCons (eK (.str "")) (aCons (eK (.str "form")) (aCons (eK (.int 0)) (aCons (eK (.int 17)) (aCons (eUn dNeg (eK (.int 3))) (aCons (eK .non) (aCons (eTup (aCons (eK (.str "a")) (aCons (eK (.int 5)) (aNil)))) (aCons (eK (.str "a line")) (aCons (eK (.bl true)) (aNil))))))))))))) (sSeq (sFor (iOf itR1 (aCons (eK (.int 7)) (aNil))) (.nm 4) (b_law_1)) (sRet (eK (.bl true)))))))
def N_law : List Str := ["script", "draws", "at", "values", "k", "one", "other", "j"]
abbrev B_law : Blk := ⟨defScope (top 41), N_law, fun _ => true⟩
theorem sc_law : FnScope N_law ["script"] (defScope (top 41)) := ⟨rfl, rfl, rfl, by decide +kernel, rfl, by decide +kernel, by decide +kernel⟩
theorem ds_law {X : Cx} (S : ScX X B_law) (Z : Zx Fx X) (C__law_caught : CallOk X "_law_caught" F__law_caught) (C__law_draws : CallOk X "_law_draws" F__law_draws) (C__law_fields : CallOk X "_law_fields" F__law_fields) (C__law_limits_right : CallOk X "_law_limits_right" F__law_limits_right) (C__law_one : CallOk X "_law_one" F__law_one) : DSn X none true (defBody (top 41)) m_law := by
  exact DSn.cons (S.set 1 (by decide +kernel) (S.call (C__law_draws) (by decide +kernel) (DA.cons (S.var 0 (by decide +kernel)) (DA.nil)))) (DSn.cell S 2 (by decide +kernel) (DSs.cons (by exact DS.ite (DT.not (DT.tru (DE.db (S.call0 C__law_limits_right (by decide +kernel))) (fun _ => rfl))) (DSs.one (by exact DS.ret (DE.bl))) (DSs.nil)) (DSs.cons (by exact S.set 3 (by decide +kernel) (DE.lst (DA.cons (DE.str) (DA.cons (DE.str) (DA.cons (DE.str) (DA.cons (DE.int) (DA.cons (DE.int) (DA.cons (DE.un und_neg (DE.db (DE.int))) (DA.cons (DE.non) (DA.cons (DE.tup (DA.cons (DE.str) (DA.cons (DE.int) (DA.nil)))) (DA.cons (DE.str) (DA.cons (DE.bl) (DA.nil))))))))))))) (DSs.cons (by exact S.for Z.po (S.range1 (Z.fx.fr "range" (by decide +kernel)) (by decide +kernel) (DBA.cons (DE.db (DE.int)) (DBA.nil))) (S.nm 4 (by decide +kernel)) (DSs.cons (by exact S.par2 (by decide +kernel) (by decide +kernel) (by decide +kernel) (by decide +kernel) (by decide) (DCs.val (S.call (C__law_one) (by decide +kernel) (DA.cons (S.var 3 (by decide +kernel)) (DA.cons (S.var 1 (by decide +kernel)) (DA.cons (S.var 2 (by decide +kernel)) (DA.nil))))) (DCs.val (S.call (C__law_one) (by decide +kernel) (DA.cons (S.var 3 (by decide +kernel)) (DA.cons (S.var 1 (by decide +kernel)) (DA.cons (S.var 2 (by decide +kernel)) (DA.nil))))) (DCs.nil))) (S.ss (by kernel_rfl))) (DSs.cons (by exact DS.ite (DT.cmp dNe_bl (opd_ne Z.un) rfl (DE.db (S.call (C__law_caught) (by decide +kernel) (DA.cons (S.var 4 (by decide +kernel)) (DA.cons (S.var 5 (by decide +kernel)) (DA.cons (S.var 6 (by decide +kernel)) (DA.nil)))))) (DE.db (DF.de (S.lc [("j", 7)] (DI.c (S.range1 (Z.fx.fr "range" (by decide +kernel)) (by decide +kernel) (DBA.cons (DE.db (DE.int)) (DBA.nil)))) (by decide +kernel) rfl (by decide) (fun s1 H1 L1 cl1 fp1 => (S.in _ s1 H1 L1 cl1 fp1).nm 7 (by decide +kernel)) (fun s2 H2 L2 cl2 fp2 => DTs.nil) (fun s3 H3 L3 cl3 fp3 => DE.cmp (opd_eq Z.un) rfl (DE.db ((S.in _ s3 H3 L3 cl3 fp3).var 7 (by decide +kernel))) (DE.db ((S.in _ s3 H3 L3 cl3 fp3).var 4 (by decide +kernel)))))))) (DSs.one (by exact DS.ret (DE.bl))) (DSs.nil)) (DSs.one (by exact DS.ite (DT.cmp dNe_bl (opd_ne Z.un) rfl (DE.db (S.callB (cd_repr Z.gd Z.un) (Z.fx.fr "repr" (by decide +kernel)) (by decide +kernel) (by decide +kernel) (DBA.cons (DE.db (S.call (C__law_fields) (by decide +kernel) (DA.cons (S.var 4 (by decide +kernel)) (DA.cons (S.var 5 (by decide +kernel)) (DA.cons (S.var 6 (by decide +kernel)) (DA.nil)))))) (DBA.nil)))) (DE.db (S.callB (cd_repr Z.gd Z.un) (Z.fx.fr "repr" (by decide +kernel)) (by decide +kernel) (by decide +kernel) (DBA.cons (DE.db (DE.ifExp (DT.cmp dEq_bl (opd_eq Z.un) rfl (DE.db (S.var 4 (by decide +kernel))) (DE.db (DE.int))) (DE.tup (DA.cons (S.var 5 (by decide +kernel)) (DA.cons (S.var 6 (by decide +kernel)) (DA.nil)))) (DE.tup (DA.cons (S.var 5 (by decide +kernel)) (DA.nil))))) (DBA.nil))))) (DSs.one (by exact DS.ret (DE.bl))) (DSs.nil)))))) (DSs.one (by exact DS.ret (DE.bl)))))))
end LAW

set_option Elab.async false
set_option linter.all false
set_option maxRecDepth 100000
set_option maxHeartbeats 0
/-! printed by genhead.py: the head and the end. -/
namespace LAW
open PySem PySem.Spec PyProof.Rows L2 DW
abbrev RP : Program := (PySem.Challenge.rw_bothatonce_k00_errors_and_limits).prog
def initOf (st : Stmt) : Stmt := match st with
  | .ClassDef _ _ _ b _ _ _ _ _ _ _ => b.getD 0 (.Pass ⟨0, 0, 0, 0⟩)
  | _ => st
def dF (x : Str) (i : Nat) : He.DefD := ⟨(x, none), x, x, defArgs (top i), defBody (top i), defScope (top i), [], []⟩
def fn0 : List He.DefD := [dF "_law_draws" 32, dF "_law_more" 33, dF "_law_limits_right" 36, dF "_law_raise" 37, dF "_law_kinds" 38, dF "_law_take" 34, dF "_law_caught" 39, dF "_law_fields" 40, dF "_law_one" 35, dF "law" 41]
def fn : List He.DefD := fn0
def gls0 : List Str := ["_law_draws", "_law_more", "_law_limits_right", "_law_raise", "_law_kinds", "_law_take", "_law_caught", "_law_fields", "_law_one", "law", "LogError", "StateError"]
def gls : List Str := gls0
def fcE : List EQ := [⟨"ArgumentError", "reason", "ReasonError.__init__", initOf (top 2)⟩, ⟨"CheckError", "reason", "ReasonError.__init__", initOf (top 2)⟩, ⟨"CommandError", "line", "CommandError.__init__", initOf (top 9)⟩, ⟨"PaperError", "reason", "ReasonError.__init__", initOf (top 2)⟩, ⟨"TextError", "at", "TextError.__init__", initOf (top 7)⟩, ⟨"TooMany", "reason", "ReasonError.__init__", initOf (top 2)⟩, ⟨"LogError", "number", "LogError.__init__", initOf (top 8)⟩]
def fc : Fc := { file := RP.main.file, gl := gls, fr := "super" :: frs, cs := [("MAX_ALIKE", k_MAX_ALIKE), ("MAX_BITS", k_MAX_BITS), ("MAX_CODED", k_MAX_CODED), ("MAX_DEPTH", k_MAX_DEPTH), ("MAX_GATES", k_MAX_GATES), ("MAX_GRAPH", k_MAX_GRAPH), ("MAX_LETTERS", k_MAX_LETTERS), ("MAX_LINES", k_MAX_LINES), ("MAX_MIXED", k_MAX_MIXED), ("MAX_NOISY", k_MAX_NOISY), ("MAX_NUMBER", k_MAX_NUMBER), ("MAX_PLAIN", k_MAX_PLAIN), ("MAX_RING", k_MAX_RING), ("MAX_SIGN_GROUP", k_MAX_SIGN_GROUP), ("MAX_SIGN_WORDS", k_MAX_SIGN_WORDS), ("MAX_TABLES", k_MAX_TABLES), ("MAX_TEXT", k_MAX_TEXT), ("MAX_THINGS", k_MAX_THINGS), ("MAX_TS", k_MAX_TS), ("MAX_TURNED", k_MAX_TURNED), ("MAX_WALKED", k_MAX_WALKED)], es := fcE, xs := subT, fl := [(errs_at, "at"), (errs_line, "line"), (errs_number, "number"), (errs_reason, "reason")], is := [(errs, "ArgumentError", is_ArgumentError), (errs, "CheckError", is_CheckError), (errs, "CommandError", is_CommandError), (errs, "LogError", is_LogError), (errs, "PaperError", is_PaperError), (errs, "TextError", is_TextError), (errs, "TooMany", is_TooMany)], ts := [] }
abbrev RR : PySem.W.OpenRow := PySem.W.OpenLaw.row PySem.Challenge.rw_bothatonce_k00_errors_and_limits
abbrev hk : PySem.W.Hook := hookW 5 fc fn
def ob (s : PySem.W.SharedT) : AlW := obsW 5 fc fn (HandSHeadRun.getT s)
theorem ob_eq (s : PySem.W.SharedT) : ob s = hk.obs s.abs := obsW_eq (HandSHeadRun.getT_eq s)
def loose0 : List Str := ["StateError", "ReasonError", "ArgumentError", "CheckError", "PaperError", "TooMany", "TextError", "LogError", "CommandError", "MAX_NUMBER", "MAX_BITS", "MAX_DEPTH", "MAX_GATES", "MAX_TEXT", "MAX_LINES", "MAX_TS", "MAX_LETTERS", "MAX_SIGN_WORDS", "MAX_SIGN_GROUP", "MAX_MIXED", "MAX_TURNED", "MAX_RING", "MAX_WALKED", "MAX_CODED", "MAX_THINGS", "MAX_GRAPH", "MAX_ALIKE", "MAX_TABLES", "MAX_NOISY", "MAX_PLAIN"]
def loose1 : List Str := ["_law_draws", "_law_more", "_law_take", "_law_one", "_law_limits_right", "_law_raise", "_law_kinds", "_law_caught", "_law_fields"]
def loose : List Str := loose0 ++ loose1
theorem run (w : World) : HandSHeadRun.RunEq RR (PySem.W.view RR.prog [41]) hk ob 4000 loose w := by
  intro os
  kernel_rfl
theorem top_super : (RP.main.scope.names.lookup ("super" : Str)).isSome = false := by kernel_rfl
theorem isc_CommandError : PySem.DWX.ISc "line" (initOf (top 9)) := ⟨⟨_, _, rfl⟩, ⟨_, _, _, _, _, _, _, _, _, _, rfl, fun _ => ⟨_, rfl⟩⟩, rfl, rfl, rfl, by decide +kernel, by decide +kernel, by decide +kernel, by decide +kernel, by decide +kernel, by decide +kernel, by decide +kernel⟩
theorem isc_ReasonError : PySem.DWX.ISc "reason" (initOf (top 2)) := ⟨⟨_, _, rfl⟩, ⟨_, _, _, _, _, _, _, _, _, _, rfl, fun _ => ⟨_, rfl⟩⟩, rfl, rfl, rfl, by decide +kernel, by decide +kernel, by decide +kernel, by decide +kernel, by decide +kernel, by decide +kernel, by decide +kernel⟩
theorem isc_TextError : PySem.DWX.ISc "at" (initOf (top 7)) := ⟨⟨_, _, rfl⟩, ⟨_, _, _, _, _, _, _, _, _, _, rfl, fun _ => ⟨_, rfl⟩⟩, rfl, rfl, rfl, by decide +kernel, by decide +kernel, by decide +kernel, by decide +kernel, by decide +kernel, by decide +kernel, by decide +kernel⟩
theorem isc2_LogError : PySem.DWX.ISc2 "number" "reason" (initOf (top 8)) := ⟨⟨_, _, _, rfl⟩, ⟨_, _, _, _, _, _, _, _, _, _, _, _, _, _, _, rfl, fun _ => ⟨_, rfl⟩⟩, rfl, rfl, rfl, by decide +kernel, by decide +kernel, by decide +kernel, by decide +kernel, by decide +kernel, by decide +kernel, by decide +kernel, by decide +kernel, by decide +kernel, by decide +kernel, by decide +kernel⟩
theorem fx_of {w : World} {M : Md} {h : Heap} (T : Told fc M h) (s : SaysW fc fn w M.K) : Fx RP w M := by
  have hs : M.mg "super" = none := T.free (List.mem_cons_self ..)
  exact ⟨fun x hx => T.free (List.mem_cons_of_mem _ hx), T.con 0 rfl, T.con 1 rfl, T.con 2 rfl, T.con 3 rfl, T.con 4 rfl, T.con 5 rfl, T.con 6 rfl, T.con 7 rfl, T.con 8 rfl, T.con 9 rfl, T.con 10 rfl, T.con 11 rfl, T.con 12 rfl, T.con 13 rfl, T.con 14 rfl, T.con 15 rfl, T.con 16 rfl, T.con 17 rfl, T.con 18 rfl, T.con 19 rfl, T.con 20 rfl, T.err s 0 rfl isc_ReasonError PySem.DWX.bind_reason rfl top_super hs, T.err s 1 rfl isc_ReasonError PySem.DWX.bind_reason rfl top_super hs, T.err s 2 rfl isc_CommandError PySem.DWX.bind_line rfl top_super hs, T.err s 3 rfl isc_ReasonError PySem.DWX.bind_reason rfl top_super hs, T.err s 4 rfl isc_TextError PySem.DWX.bind_at rfl top_super hs, T.err s 5 rfl isc_ReasonError PySem.DWX.bind_reason rfl top_super hs, T.err2 s 6 rfl isc2_LogError PySem.DWX.bind_number_reason rfl top_super hs (T.fld 3 rfl) (by decide +kernel), ⟨_, T.glo (x := "LogError") (by decide +kernel)⟩, ⟨_, T.glo (x := "StateError") (by decide +kernel)⟩, T.tb, T.fld 0 rfl, T.fld 1 rfl, T.fld 2 rfl, T.fld 3 rfl, T.isi 0 rfl, T.isi 1 rfl, T.isi 2 rfl, T.isi 3 rfl, T.isi 4 rfl, T.isi 5 rfl, T.isi 6 rfl⟩
theorem facts {w : World} {M : Md} {h : Heap} {f : Addr} (T : Told fc M h) (s : SaysW fc fn w M.K) (hfa : M.mg ("law" : Str) = some (.ref f))
    (hp : ∀ ns : List Int, ns.length ≤ 63 → ∃ c, m_law (.val (.scr ns) :: List.replicate (N_law.length - 1) .no) 0 = .ret (.bl true) c) :
    ∃ fd : FuncData, (∀ (s : Shared) (v : Value), BindsTo s fd ⟨[v], []⟩ [("script", v)]) ∧ ∀ base : Heap, M.K.In base → base.Ns mainGlobals M.mg → FnG RP w M.K M.mg base (L2.CX RP w) 4 f fd ["script"] (spLaw M.K 63) := by
  have hx := fx_of T s
  obtain ⟨fd__law_draws, F__law_draws'⟩ := s.def_ 0 (d := dF "_law_draws" 32) rfl
  have g__law_draws : M.mg "_law_draws" = some (.ref (He.fAd M.K ("_law_draws", none))) := T.glo (x := "_law_draws") (by decide +kernel)
  obtain ⟨fd__law_more, F__law_more'⟩ := s.def_ 1 (d := dF "_law_more" 33) rfl
  have g__law_more : M.mg "_law_more" = some (.ref (He.fAd M.K ("_law_more", none))) := T.glo (x := "_law_more") (by decide +kernel)
  obtain ⟨fd__law_limits_right, F__law_limits_right'⟩ := s.def_ 2 (d := dF "_law_limits_right" 36) rfl
  have g__law_limits_right : M.mg "_law_limits_right" = some (.ref (He.fAd M.K ("_law_limits_right", none))) := T.glo (x := "_law_limits_right") (by decide +kernel)
  obtain ⟨fd__law_raise, F__law_raise'⟩ := s.def_ 3 (d := dF "_law_raise" 37) rfl
  have g__law_raise : M.mg "_law_raise" = some (.ref (He.fAd M.K ("_law_raise", none))) := T.glo (x := "_law_raise") (by decide +kernel)
  obtain ⟨fd__law_kinds, F__law_kinds'⟩ := s.def_ 4 (d := dF "_law_kinds" 38) rfl
  have g__law_kinds : M.mg "_law_kinds" = some (.ref (He.fAd M.K ("_law_kinds", none))) := T.glo (x := "_law_kinds") (by decide +kernel)
  obtain ⟨fd__law_take, F__law_take'⟩ := s.def_ 5 (d := dF "_law_take" 34) rfl
  have g__law_take : M.mg "_law_take" = some (.ref (He.fAd M.K ("_law_take", none))) := T.glo (x := "_law_take") (by decide +kernel)
  obtain ⟨fd__law_caught, F__law_caught'⟩ := s.def_ 6 (d := dF "_law_caught" 39) rfl
  have g__law_caught : M.mg "_law_caught" = some (.ref (He.fAd M.K ("_law_caught", none))) := T.glo (x := "_law_caught") (by decide +kernel)
  obtain ⟨fd__law_fields, F__law_fields'⟩ := s.def_ 7 (d := dF "_law_fields" 40) rfl
  have g__law_fields : M.mg "_law_fields" = some (.ref (He.fAd M.K ("_law_fields", none))) := T.glo (x := "_law_fields") (by decide +kernel)
  obtain ⟨fd__law_one, F__law_one'⟩ := s.def_ 8 (d := dF "_law_one" 35) rfl
  have g__law_one : M.mg "_law_one" = some (.ref (He.fAd M.K ("_law_one", none))) := T.glo (x := "_law_one") (by decide +kernel)
  obtain ⟨fd, FD⟩ := s.def_ 9 (d := dF "law" 41) rfl
  have e := hfa.symm.trans (T.glo (x := "law") (by decide +kernel))
  cases e
  have b := FunD.bindsA (ps := ["script"]) FD fun _ _ _ _ _ _ us hl => match us, hl with | [_], _ => rfl
  refine ⟨fd, fun s v => b s [v] rfl, fun base _ _ => ?_⟩
  have o__law_draws := ok__law_draws (P := RP) (w := w) (base := base) F__law_draws' g__law_draws hx 
  have o__law_more := ok__law_more (P := RP) (w := w) (base := base) F__law_more' g__law_more hx 
  have o__law_limits_right := ok__law_limits_right (P := RP) (w := w) (base := base) F__law_limits_right' g__law_limits_right hx 
  have o__law_raise := ok__law_raise (P := RP) (w := w) (base := base) F__law_raise' g__law_raise hx 
  have o__law_kinds := ok__law_kinds (P := RP) (w := w) (base := base) F__law_kinds' g__law_kinds hx 
  have o__law_take := ok__law_take (P := RP) (w := w) (base := base) F__law_take' g__law_take hx o__law_more
  have o__law_caught := ok__law_caught (P := RP) (w := w) (base := base) F__law_caught' g__law_caught hx o__law_kinds o__law_raise
  have o__law_fields := ok__law_fields (P := RP) (w := w) (base := base) F__law_fields' g__law_fields hx o__law_raise
  have o__law_one := ok__law_one (P := RP) (w := w) (base := base) F__law_one' g__law_one hx o__law_take
  exact okLaw FD sc_law (by decide) (fun X C S => ds_law S (C.zx hx) (C.ok o__law_caught (by decide)) (C.ok o__law_draws (by decide)) (C.ok o__law_fields (by decide)) (C.ok o__law_limits_right (by decide)) (C.ok o__law_one (by decide))) hp
end LAW
section
open PySem PySem.W PySem.Calls PyProof.Rows
theorem LAW.holds (hp : ∀ ns : List Int, ns.length ≤ 63 → ∃ c, LAW.m_law (.val (.scr ns) :: List.replicate (LAW.N_law.length - 1) .no) 0 = .ret (.bl true) c) : PySem.Challenge.rw_bothatonce_k00_errors_and_limits.Holds := by
  w_on; o_law
  refine HandSHeadRun.head_any (r := OpenLaw.row PySem.Challenge.rw_bothatonce_k00_errors_and_limits) (q := view (OpenLaw.row PySem.Challenge.rw_bothatonce_k00_errors_and_limits).prog [41]) (H := LAW.hk) (ob := LAW.ob) (M := 4000) (loose := LAW.loose) (d := HandSHeadRun.topDef (OpenLaw.row PySem.Challenge.rw_bothatonce_k00_errors_and_limits).prog 41) (kwd := []) LAW.ob_eq
    (by kernel_rfl) (fun s => by kernel_rfl) LAW.run (by kernel_rfl) (by kernel_rfl) (by kernel_rfl) (by rfl) (by first | assumption | decide +kernel) (by decide +kernel) ⟨rfl, rfl, rfl, rfl, rfl, by decide +kernel⟩ ?hw ?hc
  case hw => w_witness2
  case hc =>
    refine DW.walk_G (l := PySem.Challenge.rw_bothatonce_k00_errors_and_limits) (n := 63) (k := 4) (x := "script") rfl (by decide) (by kernel_rfl) ⟨rfl, by decide, by decide⟩ ?F
    intro w mg fa h Y G hmg0
    obtain ⟨K, KX, c⟩ := Y
    have hmg : mg ("law" : PySem.Str) = some (.ref fa) := by
      have e : (HandSHeadRun.topDef (OpenLaw.row PySem.Challenge.rw_bothatonce_k00_errors_and_limits).prog 41).name = ("law" : PySem.Str) := by kernel_rfl
      rw [← e]
      exact hmg0
    obtain ⟨fd, hb, hF⟩ := LAW.facts (w := w) (M := ⟨K, mg⟩) ⟨KX, G, DW.SaysW.fc (M := ⟨K, mg⟩) c⟩ c hmg hp
    exact ⟨K, fd, KX, hb, hF⟩
end

set_option Elab.async false
set_option linter.all false
set_option maxRecDepth 100000
set_option maxHeartbeats 4000000
/-! EV: mirrors evaluated: rewriting rules without bare matches. -/
namespace DW
open PySem
def SR.and (r : SR) (g : SF) : SR := match r with
  | .nx ev c => g ev c
  | r => r
theorem sSeq_eq (f g : SF) (ev : Env) (c : Int) : sSeq f g ev c = (f ev c).and g := by
  unfold sSeq SR.and
  cases f ev c <;> rfl
theorem and_nx (ev : Env) (c : Int) (g : SF) : SR.and (.nx ev c) g = g ev c := rfl
theorem and_ret (d : D) (c : Int) (g : SF) : SR.and (.ret d c) g = .ret d c := rfl
theorem and_exc (x : XD) (ev : Env) (c : Int) (g : SF) : SR.and (.exc x ev c) g = .exc x ev c := rfl
theorem and_brk (ev : Env) (c : Int) (g : SF) : SR.and (.brk ev c) g = .brk ev c := rfl
theorem and_cnt (ev : Env) (c : Int) (g : SF) : SR.and (.cnt ev c) g = .cnt ev c := rfl
theorem and_bad (g : SF) : SR.and .bad g = .bad := rfl
theorem and_ite (p : Prop) [Decidable p] (a b : SR) (g : SF) : SR.and (if p then a else b) g = if p then a.and g else b.and g := by split <;> rfl
section
variable {α β : Type}
theorem bind_ok (a : α) (c : Int) (f : α → Int → R β) : R.bind (.ok a c) f = f a c := rfl
theorem bind_exc (x : XD) (c : Int) (f : α → Int → R β) : R.bind (.exc x c) f = .exc x c := rfl
theorem bind_bad (f : α → Int → R β) : R.bind .bad f = .bad := rfl
theorem bind_ite (p : Prop) [Decidable p] (a b : R α) (f : α → Int → R β) : R.bind (if p then a else b) f = if p then a.bind f else b.bind f := by split <;> rfl
theorem toS_ok (a : α) (c : Int) (ev : Env) (k : α → Int → SR) : R.toS (.ok a c) ev k = k a c := rfl
theorem toS_exc (x : XD) (c : Int) (ev : Env) (k : α → Int → SR) : R.toS (.exc x c : R α) ev k = .exc x ev c := rfl
theorem toS_bad (ev : Env) (k : α → Int → SR) : R.toS (.bad : R α) ev k = .bad := rfl
theorem toS_ite (p : Prop) [Decidable p] (a b : R α) (ev : Env) (k : α → Int → SR) : R.toS (if p then a else b) ev k = if p then a.toS ev k else b.toS ev k := by split <;> rfl
theorem of_some (a : α) (c : Int) : R.of (some a) c = .ok a c := rfl
theorem of_none (c : Int) : (R.of none c : R α) = .bad := rfl
theorem of_ite (p : Prop) [Decidable p] (a b : Option α) (c : Int) : R.of (if p then a else b) c = if p then R.of a c else R.of b c := by split <;> rfl
end
def gV (s : Option S) (c : Int) : R D := match s with
  | some (.val d) => .ok d c
  | _ => .bad
theorem gV_val (d : D) (c : Int) : gV (some (.val d)) c = .ok d c := rfl
theorem eVar_eq (i : Nat) (ev : Env) (c : Int) : eVar i ev c = gV ev[i]? c := rfl
def gO (s : Option S) (c : Int) : R D := match s with
  | some (.own d) => .ok d c
  | _ => .bad
theorem gO_own (d : D) (c : Int) : gO (some (.own d)) c = .ok d c := rfl
theorem eBor_eq (i : Nat) (ev : Env) (c : Int) : eBor i ev c = gO ev[i]? c := rfl
def gA (s : Option S) (c : Int) : R D := match s with
  | some (.own d) => .ok d c
  | some (.val d) => .ok d c
  | _ => .bad
theorem gA_own (d : D) (c : Int) : gA (some (.own d)) c = .ok d c := rfl
theorem gA_val (d : D) (c : Int) : gA (some (.val d)) c = .ok d c := rfl
theorem eAny_eq (i : Nat) (ev : Env) (c : Int) : eAny i ev c = gA ev[i]? c := rfl
def runR (r : SR) : R D := match r with
  | .ret d c => .ok d c
  | .nx _ c => .ok .non c
  | .exc x _ c => .exc x c
  | _ => .bad
theorem runR_ret (d : D) (c : Int) : runR (.ret d c) = .ok d c := rfl
theorem runR_nx (ev : Env) (c : Int) : runR (.nx ev c) = .ok .non c := rfl
theorem runR_exc (x : XD) (ev : Env) (c : Int) : runR (.exc x ev c) = .exc x c := rfl
theorem runR_ite (p : Prop) [Decidable p] (a b : SR) : runR (if p then a else b) = if p then runR a else runR b := by split <;> rfl
theorem runF_eq (n m : Nat) (b : SF) (ds : List D) (c : Int) : runF n m b ds c = if ds.length = n then runR (b (ds.map .val ++ List.replicate (m - n) .no) c) else .bad := rfl
def bindO (o : Option Env) (k : Env → SR) : SR := match o with
  | some ev => k ev
  | none => .bad
theorem bindO_some (ev : Env) (k : Env → SR) : bindO (some ev) k = k ev := rfl
theorem sAsg_eq (p : Pt) (e : E) (ev : Env) (c : Int) : sAsg p e ev c = (e ev c).toS ev fun d c => bindO (bindP p d ev) fun ev => .nx ev c := rfl
def loopR (r : SR) (k : SF) : SR := match r with
  | .nx ev c => k ev c
  | .cnt ev c => k ev c
  | .brk ev c => .nx ev c
  | r => r
theorem loopR_nx (ev : Env) (c : Int) (k : SF) : loopR (.nx ev c) k = k ev c := rfl
theorem loopR_cnt (ev : Env) (c : Int) (k : SF) : loopR (.cnt ev c) k = k ev c := rfl
theorem loopR_brk (ev : Env) (c : Int) (k : SF) : loopR (.brk ev c) k = .nx ev c := rfl
theorem loopR_ret (d : D) (c : Int) (k : SF) : loopR (.ret d c) k = .ret d c := rfl
theorem loopR_exc (x : XD) (ev : Env) (c : Int) (k : SF) : loopR (.exc x ev c) k = .exc x ev c := rfl
theorem loopR_ite (p : Prop) [Decidable p] (a b : SR) (k : SF) : loopR (if p then a else b) k = if p then loopR a k else loopR b k := by split <;> rfl
theorem forL_nil (p : Pt) (b : SF) (ev : Env) (c : Int) : forL p b [] ev c = .nx ev c := rfl
theorem forL_cons (p : Pt) (b : SF) (d : D) (ds : List D) (ev : Env) (c : Int) : forL p b (d :: ds) ev c = bindO (bindP p d ev) fun ev1 => loopR (b ev1 c) (forL p b ds) := by
  rw [forL]
  cases bindP p d ev with
  | none => rfl
  | some ev1 =>
    dsimp only [bindO]
    cases b ev1 c <;> rfl
def bindOR {α : Type} (o : Option Env) (k : Env → R α) : R α := match o with
  | some ev => k ev
  | none => .bad
theorem bindOR_some {α : Type} (ev : Env) (k : Env → R α) : bindOR (some ev) k = k ev := rfl
theorem lcL_nil (p : Pt) (t : T) (e : E) (ev : Env) (c : Int) : lcL p t e ev [] c = .ok [] c := rfl
theorem lcL_cons (p : Pt) (t : T) (e : E) (ev : Env) (d : D) (ds : List D) (c : Int) : lcL p t e ev (d :: ds) c = bindOR (bindP p d ev) fun ev1 => (t ev1 c).bind fun k c => if k = true then (e ev1 c).bind fun y c => (lcL p t e ev ds c).bind fun ys c => .ok (y :: ys) c else lcL p t e ev ds c := by
  rw [lcL]
  cases bindP p d ev <;> rfl
theorem noX_ok {α : Type} (a : α) (c : Int) : R.noX (.ok a c) = .ok a c := rfl
theorem bindP_nm (i : Nat) (d : D) (ev : Env) : bindP (.nm i) d ev = some (ev.set i (.val d)) := by unfold bindP; rfl
theorem bindP_tp (ps : List Pt) (ds : List D) (ev : Env) : bindP (.tp ps) (.tup ds) ev = bindPs ps ds ev := by unfold bindP; rfl
theorem bindPs_nil (ev : Env) : bindPs [] [] ev = some ev := by unfold bindPs; rfl
theorem bindPs_cons (p : Pt) (ps : List Pt) (d : D) (ds : List D) (ev : Env) : bindPs (p :: ps) (d :: ds) ev = (bindP p d ev).bind fun ev => bindPs ps ds ev := by rw [bindPs]
theorem atI_lit {α : Type} (xs : List α) (n : Nat) : L2.atI xs (n : Int) = if n < xs.length then xs[n]? else none := by
  unfold L2.atI L2.ixN
  by_cases h : n < xs.length
  · have h1 : (n : Int) < (xs.length : Int) := by omega
    simp [h, h1]
  · have h1 : ¬ (n : Int) < (xs.length : Int) := by omega
    simp [h, h1]
theorem dIx_tup (xs : List D) (i : Int) : dIx (.tup xs) (.int i) = L2.atI xs i := rfl
theorem dIx_lst (xs : List D) (i : Int) : dIx (.lst xs) (.int i) = L2.atI xs i := rfl
theorem atI_0 {α : Type} (x : α) (xs : List α) : L2.atI (x :: xs) 0 = some x := by
  have := atI_lit (x :: xs) 0
  simpa using this
theorem atI_1 {α : Type} (x y : α) (xs : List α) : L2.atI (x :: y :: xs) 1 = some y := by
  have := atI_lit (x :: y :: xs) 1
  simpa using this
theorem atI_2 {α : Type} (x y z : α) (xs : List α) : L2.atI (x :: y :: z :: xs) 2 = some z := by
  have := atI_lit (x :: y :: z :: xs) 2
  simpa using this
theorem atI_3 {α : Type} (x y z u : α) (xs : List α) : L2.atI (x :: y :: z :: u :: xs) 3 = some u := by
  have := atI_lit (x :: y :: z :: u :: xs) 3
  simpa using this
theorem dSub_int (i j : Int) : dSub (.int i) (.int j) = some (.int (i - j)) := rfl
theorem dAdd_int (i j : Int) : dAdd (.int i) (.int j) = some (.int (i + j)) := rfl
theorem dMul_int (i j : Int) : dMul (.int i) (.int j) = if mulOk i j = true then some (.int (i * j)) else none := rfl
theorem dMulI_int (i j : Int) : dMulI (.int i) (.int j) = if mulOk i j = true then some (.int (i * j)) else none := rfl
theorem dAddI_int (i j : Int) : dAddI (.int i) (.int j) = some (.int (i + j)) := rfl
theorem dSubI_int (i j : Int) : dSubI (.int i) (.int j) = some (.int (i - j)) := rfl
theorem dNeg_int (i : Int) : dNeg (.int i) = some (.int (-i)) := rfl
theorem dMod_int (i j : Int) : dMod (.int i) (.int j) = if j ≠ 0 then some (.int (i.fmod j)) else none := rfl
theorem dFdiv_int (i j : Int) : dFdiv (.int i) (.int j) = if divOk j = true then some (.int (i.fdiv j)) else none := rfl
theorem dLt_int (i j : Int) : dLt (.int i) (.int j) = some (.bl (decide (i < j))) := rfl
theorem dLe_int (i j : Int) : dLe (.int i) (.int j) = some (.bl (decide (i ≤ j))) := rfl
theorem dGt_int (i j : Int) : dGt (.int i) (.int j) = some (.bl (decide (j < i))) := rfl
theorem dGe_int (i j : Int) : dGe (.int i) (.int j) = some (.bl (decide (j ≤ i))) := rfl
theorem dTru_int (i : Int) : dTru (.int i) = some (i != 0) := rfl
theorem dTru_bl (b : Bool) : dTru (.bl b) = some b := rfl
theorem dTru_lst (xs : List D) : dTru (.lst xs) = some (!xs.isEmpty) := rfl
theorem dTru_tup (xs : List D) : dTru (.tup xs) = some (!xs.isEmpty) := rfl
theorem dTru_non : dTru .non = some false := rfl
theorem divOk2 : divOk 2 = true := by decide
theorem itSeq_lst (xs : List D) : itSeq (.lst xs) = some xs := rfl
theorem itSeq_tup (xs : List D) : itSeq (.tup xs) = some xs := rfl
theorem itInts_zero (lo : Int) : itInts lo 0 = [] := rfl
theorem itInts_succ (lo : Int) (n : Nat) : itInts lo (n + 1) = .int lo :: itInts (lo + 1) n := rfl
theorem ownFree_nil (ev : Env) : ownFree [] ev = true := rfl
theorem ownFree_cons (v : Nat) (vs : List Nat) (ev : Env) : ownFree (v :: vs) ev = (notOwn ev[v]? && ownFree vs ev) := rfl
theorem dTuple_lst (xs : List D) : dTuple [.lst xs] = some (.tup xs) := rfl
theorem dTuple_tup (xs : List D) : dTuple [.tup xs] = some (.tup xs) := rfl
theorem dList_lst (xs : List D) : dList [.lst xs] = some (.lst xs) := rfl
theorem dList_tup (xs : List D) : dList [.tup xs] = some (.lst xs) := rfl
theorem dLen_lst (xs : List D) : dLen [.lst xs] = some (.int xs.length) := rfl
theorem dLen_tup (xs : List D) : dLen [.tup xs] = some (.int xs.length) := rfl
theorem opt_bind_some {α β : Type} (a : α) (f : α → Option β) : (some a).bind f = f a := rfl
theorem sWhl_step {t : T} {b : SF} {ev : Env} {c : Int} : sWhl t b ev c = (t ev c).toS ev fun k c => if k = true then loopR (b ev c) (sWhl t b) else .nx ev c := by
  rw [sWhl_eq]
  congr 1
theorem dAny_lst (xs : List D) : dAny [.lst xs] = if xs.all (fun d => (flatT d).isSome) then some (.bl (xs.any fun d => (flatT d).getD false)) else none := rfl
theorem dAll_lst (xs : List D) : dAll [.lst xs] = if xs.all (fun d => (flatT d).isSome) then some (.bl (xs.all fun d => (flatT d).getD false)) else none := rfl
theorem flatT_int (i : Int) : flatT (.int i) = some (i != 0) := rfl
theorem flatT_bl (b : Bool) : flatT (.bl b) = some b := rfl
theorem sPar_eq (is : List Nat) (cs : List (Bool × E)) (ev : Env) (c : Int) : sPar is cs ev c = (eCs cs ev c).toS ev fun ss c => if is.length = ss.length ∧ (∀ i ∈ is, i < ev.length) then .nx (setAll is ss ev) c else .bad := rfl
theorem eCs_nil (ev : Env) (c : Int) : eCs [] ev c = .ok [] c := rfl
theorem eCs_val (e : E) (r : List (Bool × E)) (ev : Env) (c : Int) : eCs ((false, e) :: r) ev c = (e ev c).bind fun d c => (eCs r ev c).bind fun ss c => .ok (.val d :: ss) c := rfl
theorem eCs_own (e : E) (r : List (Bool × E)) (ev : Env) (c : Int) : eCs ((true, e) :: r) ev c = (e ev c).bind fun d c => (eCs r ev c).bind fun ss c => .ok (.own d :: ss) c := rfl
theorem setAll_nil (ev : Env) : setAll [] [] ev = ev := rfl
theorem setAll_cons (i : Nat) (is : List Nat) (s : S) (ss : List S) (ev : Env) : setAll (i :: is) (s :: ss) ev = setAll is ss (ev.set i s) := rfl
theorem all_nil (n : Nat) : (∀ i ∈ ([] : List Nat), i < n) = True := by simp
theorem all_cons (i : Nat) (is : List Nat) (n : Nat) : (∀ j ∈ i :: is, j < n) = (i < n ∧ ∀ j ∈ is, j < n) := by simp
theorem dMax2_int (i j : Int) : dMax2 [.int i, .int j] = some (.int (if j > i then j else i)) := rfl
theorem dMin2_int (i j : Int) : dMin2 [.int i, .int j] = some (.int (if j < i then j else i)) := rfl
theorem dAbs_int (i : Int) : dAbs [.int i] = some (.int (if i < 0 then -i else i)) := rfl
theorem dInt_int (i : Int) : dInt [.int i] = some (.int i) := rfl
theorem itZip_lst (xs ys : List D) : itZip [.lst xs, .lst ys] = some (zipD xs ys) := rfl
theorem itZip_tup (xs ys : List D) : itZip [.tup xs, .tup ys] = some (zipD xs ys) := rfl
theorem zipD_cons (d : D) (ds : List D) (e : D) (es : List D) : zipD (d :: ds) (e :: es) = .tup [d, e] :: zipD ds es := rfl
theorem zipD_nil : zipD [] [] = [] := rfl
theorem itEnum_lst (xs : List D) : itEnum [.lst xs] = some (enumD 0 xs) := rfl
theorem itEnum_tup (xs : List D) : itEnum [.tup xs] = some (enumD 0 xs) := rfl
theorem enumD_cons (n : Nat) (d : D) (ds : List D) : enumD n (d :: ds) = .tup [.int n, d] :: enumD (n + 1) ds := rfl
theorem enumD_nil (n : Nat) : enumD n [] = [] := rfl
def augS (s : Option S) (g : D → D → Option D) (i : Nat) (e : R D) (ev : Env) : SR := match s with
  | some (.val x) => e.toS ev fun y c => (R.of (g x y) c).toS ev fun z c => .nx (ev.set i (.val z)) c
  | _ => .bad
theorem augS_val (x : D) (g : D → D → Option D) (i : Nat) (e : R D) (ev : Env) : augS (some (.val x)) g i e ev = e.toS ev fun y c => (R.of (g x y) c).toS ev fun z c => .nx (ev.set i (.val z)) c := rfl
theorem sAug_eq (i : Nat) (g : D → D → Option D) (e : E) (ev : Env) (c : Int) : sAug i g e ev c = augS ev[i]? g i (e ev c) ev := by
  unfold sAug augS
  cases ev[i]? with
  | none => rfl
  | some s => cases s <;> rfl
def ownL (s : Option S) (k : List D → SR) : SR := match s with
  | some (.own (.lst xs)) => k xs
  | _ => .bad
theorem ownL_own (xs : List D) (k : List D → SR) : ownL (some (.own (.lst xs))) k = k xs := rfl
def intS (d : D) (k : Int → SR) : SR := match d with
  | .int i => k i
  | _ => .bad
theorem intS_int (i : Int) (k : Int → SR) : intS (.int i) k = k i := rfl
def optS {α : Type} (o : Option α) (k : α → SR) : SR := match o with
  | some a => k a
  | none => .bad
theorem optS_some {α : Type} (a : α) (k : α → SR) : optS (some a) k = k a := rfl
theorem sApp_eq (i : Nat) (e : E) (ev : Env) (c : Int) : sApp i e ev c = ownL ev[i]? fun xs => (e ev c).toS ev fun d c => if xs.length < sizeLine then .nx (ev.set i (.own (.lst (xs ++ [d])))) c else .bad := by
  unfold sApp ownL
  cases ev[i]? with
  | none => rfl
  | some s => cases s <;> first | rfl | (rename_i d; cases d <;> rfl)
theorem toS_congr {α : Type} {r : R α} {ev : Env} {k k' : α → Int → SR} (h : ∀ a c, k a c = k' a c) : r.toS ev k = r.toS ev k' := by
  cases r <;> first | rfl | exact h _ _
theorem sAugIx_eq (i : Nat) (j : E) (g : D → D → Option D) (e : E) (ev : Env) (c : Int) : sAugIx i j g e ev c = ownL ev[i]? fun xs => (j ev c).toS ev fun k c => intS k fun k => optS (L2.ixN xs.length k) fun n => optS xs[n]? fun old =>
    (e ev c).toS ev fun d c => (R.of (g old d) c).toS ev fun z c => .nx (ev.set i (.own (.lst (xs.set n z)))) c := by
  unfold sAugIx
  cases ev[i]? with
  | none => rfl
  | some s =>
    cases s with
    | own d =>
      cases d with
      | lst xs =>
        refine toS_congr fun k c => ?_
        cases k with
        | int k =>
          dsimp only [intS]
          cases L2.ixN xs.length k with
          | none => rfl
          | some n =>
            dsimp only [optS]
            cases xs[n]? <;> rfl
        | _ => rfl
      | _ => rfl
    | _ => rfl
theorem sPut_eq (i : Nat) (j e : E) (ev : Env) (c : Int) : sPut i j e ev c = (e ev c).toS ev fun d c => ownL ev[i]? fun xs => (j ev c).toS ev fun k c => optS (putR xs k d) fun ys => .nx (ev.set i (.own (.lst ys))) c := by
  unfold sPut
  refine toS_congr fun d c => ?_
  cases ev[i]? with
  | none => rfl
  | some s =>
    cases s with
    | own d' =>
      cases d' with
      | lst xs =>
        refine toS_congr fun k c => ?_
        cases putR xs k d <;> rfl
      | _ => rfl
    | _ => rfl
theorem putR_int (xs : List D) (k : Int) (d : D) : putR xs (.int k) d = (L2.ixN xs.length k).map fun n => xs.set n d := rfl
theorem ixN_lit (n k : Nat) : L2.ixN n (k : Int) = if k < n then some k else none := by
  unfold L2.ixN
  by_cases h : k < n
  · have h1 : (k : Int) < (n : Int) := by omega
    simp [h, h1]
  · have h1 : ¬ (k : Int) < (n : Int) := by omega
    simp [h, h1]
def fzS (s : Option S) (i : Nat) (f : SF) (ev : Env) (c : Int) : SR := match s with
  | some (.own d) => f (ev.set i (.val d)) c
  | _ => f ev c
theorem sFz_eq (i : Nat) (f : SF) (ev : Env) (c : Int) : sFz i f ev c = fzS ev[i]? i f ev c := rfl
theorem fzS_own (d : D) (i : Nat) (f : SF) (ev : Env) (c : Int) : fzS (some (.own d)) i f ev c = f (ev.set i (.val d)) c := rfl
theorem fzS_val (d : D) (i : Nat) (f : SF) (ev : Env) (c : Int) : fzS (some (.val d)) i f ev c = f ev c := rfl
theorem gRep_lst (xs : List D) (k : Int) : gRep (.lst xs) (.int k) = if decide (k < 2 ^ 63) && (decide (-(2 ^ 63) ≤ k) && decide (xs.length * k.toNat ≤ sizeLine)) then some (.lst (List.replicate k.toNat xs).flatten) else none := rfl
theorem dEq_int (i j : Int) : dEq (.int i) (.int j) = some (.bl (i == j)) := rfl
theorem dNe_int (i j : Int) : dNe (.int i) (.int j) = some (.bl (!(i == j))) := rfl
theorem dEq_nil : dEq (.lst []) (.lst []) = some (.bl true) := rfl
theorem dNe_nil : dNe (.lst []) (.lst []) = some (.bl false) := rfl
theorem dEq_int_nil (i : Int) (xs : List D) (h : D.fits 15 xs = true) : dEq (.lst (.int i :: xs)) (.lst []) = some (.bl false) := by
  have e : D.fit 16 (.lst (.int i :: xs)) = true := by
    show (true && D.fits 15 xs) = true
    rw [h]
    rfl
  show (if (D.fit 16 (.lst (.int i :: xs)) && true) = true then _ else _) = _
  rw [e]
  rfl
theorem dNe_int_nil (i : Int) (xs : List D) (h : D.fits 15 xs = true) : dNe (.lst (.int i :: xs)) (.lst []) = some (.bl true) := by
  have e : D.fit 16 (.lst (.int i :: xs)) = true := by
    show (true && D.fits 15 xs) = true
    rw [h]
    rfl
  show (if (D.fit 16 (.lst (.int i :: xs)) && true) = true then _ else _) = _
  rw [e]
  rfl
theorem fits_nil (n : Nat) : D.fits n [] = true := by unfold D.fits; rfl
theorem fits_int (n : Nat) (i : Int) (xs : List D) : D.fits n (.int i :: xs) = D.fits n xs := by
  rw [D.fits]
  unfold D.fit
  rfl
theorem itR1_nat (m : Nat) (h : m < 2 ^ 62) : itR1 [.int m] = some (itInts 0 m) := by
  have e : okRg (m : Int) = true := by
    unfold okRg
    have h1 : (-(2 ^ 62) : Int) ≤ (m : Int) := by omega
    have h2 : (m : Int) < (2 ^ 62 : Int) := by omega
    rw [decide_eq_true h1, decide_eq_true h2]
    rfl
  show (if okRg (m : Int) = true then some (itInts 0 (m : Int).toNat) else none) = _
  rw [e]
  simp
theorem itR1_3 : itR1 [.int 3] = some [.int 0, .int 1, .int 2] := by rfl
theorem itR1_4 : itR1 [.int 4] = some [.int 0, .int 1, .int 2, .int 3] := by rfl
theorem itR1_7 : itR1 [.int 7] = some [.int 0, .int 1, .int 2, .int 3, .int 4, .int 5, .int 6] := by rfl
theorem itR1_8 : itR1 [.int 8] = some [.int 0, .int 1, .int 2, .int 3, .int 4, .int 5, .int 6, .int 7] := by rfl
theorem itInts_length : ∀ (n : Nat) (lo : Int), (itInts lo n).length = n
  | 0, _ => rfl
  | n + 1, lo => by rw [itInts_succ, List.length_cons, itInts_length n]
theorem mulOk_r2 (i : Int) : mulOk i 2 = true := by
  unfold mulOk
  simp
theorem natAbs_log2_lt {i : Int} {k : Nat} (h : i.natAbs < 2 ^ k) : i.natAbs.log2 < k ∨ i.natAbs = 0 := by
  by_cases h0 : i.natAbs = 0
  · exact .inr h0
  · exact .inl ((Nat.log2_lt h0).mpr h)
theorem mulOk_of {i j : Int} (hi : i.natAbs < 2 ^ 4000) (hj : j.natAbs < 2 ^ 4000) : mulOk i j = true := by
  unfold mulOk
  rcases natAbs_log2_lt hi with h1 | h1
  · rcases natAbs_log2_lt hj with h2 | h2
    · have : i.natAbs.log2 + j.natAbs.log2 < 1000000 := by omega
      simp [this]
    · have : j.natAbs < 2 ^ 64 := by rw [h2]; decide
      simp [this]
  · have : i.natAbs < 2 ^ 64 := by rw [h1]; decide
    simp [this]
theorem enumD4 (a b c d : D) : enumD 0 [a, b, c, d] = [.tup [.int 0, a], .tup [.int 1, b], .tup [.int 2, c], .tup [.int 3, d]] := rfl
theorem fmod4_0 : Int.fmod 0 4 = 0 := rfl
theorem fmod4_1 : Int.fmod 1 4 = 1 := rfl
theorem fmod4_2 : Int.fmod 2 4 = 2 := rfl
theorem fmod4_3 : Int.fmod 3 4 = 3 := rfl
theorem fmod4_4 : Int.fmod 4 4 = 0 := rfl
theorem fmod4_5 : Int.fmod 5 4 = 1 := rfl
theorem fmod4_6 : Int.fmod 6 4 = 2 := rfl
theorem fmod4_7 : Int.fmod 7 4 = 3 := rfl
theorem notOwn_no : notOwn (some .no) = true := rfl
theorem notOwn_val (d : D) : notOwn (some (.val d)) = true := rfl
theorem dAdd_lst (xs ys : List D) : dAdd (.lst xs) (.lst ys) = if xs.length + ys.length ≤ sizeLine then some (.lst (xs ++ ys)) else none := rfl
def gC (s : Option S) (c : Int) : R D := match s with
  | some (.val .cell) => .ok (.int c) c
  | _ => .bad
theorem gC_cell (c : Int) : gC (some (.val .cell)) c = .ok (.int c) c := rfl
theorem eCell_eq (i : Nat) (ev : Env) (c : Int) : eCell i ev c = gC ev[i]? c := rfl
def pC (s : Option S) (d : D) (ev : Env) : SR := match s, d with
  | some (.val .cell), .int n => .nx ev n
  | _, _ => .bad
theorem pC_cell (n : Int) (ev : Env) : pC (some (.val .cell)) (.int n) ev = .nx ev n := rfl
theorem sCell_eq (i : Nat) (e : E) (ev : Env) (c : Int) : sCell i e ev c = (e ev c).toS ev fun d _ => pC ev[i]? d ev := rfl
theorem mulOk_r {i j : Int} (h : j.natAbs < 2 ^ 64) : mulOk i j = true := by
  unfold mulOk
  simp [h]
theorem mulOk_l {i j : Int} (h : i.natAbs < 2 ^ 64) : mulOk i j = true := by
  unfold mulOk
  simp [h]
theorem dPow_int (i j : Int) : dPow (.int i) (.int j) = if decide (0 ≤ j) && (decide (j ≤ 1000000) && decide (i.natAbs < 2 ^ 64)) then some (.int (i ^ j.toNat)) else none := rfl
def vR (Fs : Str → Option Fn) (d : D) (k : Fn → R D) : R D := match d with
  | .fn x => (match Fs x with
    | some F => k F
    | none => .bad)
  | _ => .bad
theorem eCallV_eq (Fs : Str → Option Fn) (fv : E) (r : EL) (ev : Env) (c : Int) : eCallV Fs fv r ev c = (fv ev c).bind fun f c => vR Fs f fun F => (r ev c).bind fun ds c => F ds c := by
  unfold eCallV
  congr 1
theorem vR_fn {Fs : Str → Option Fn} {x : Str} {F : Fn} (h : Fs x = some F) (k : Fn → R D) : vR Fs (.fn x) k = k F := by
  show (match Fs x with
    | some F => k F
    | none => R.bad) = k F
  rw [h]
def tryR (sub : Str → Str → Option Bool) (hs : List Hd) (r : SR) : SR := match r with
  | .exc x ev c => hL sub hs x ev c
  | r => r
theorem sTry_eq (sub : Str → Str → Option Bool) (b : SF) (hs : List Hd) (ev : Env) (c : Int) : sTry sub b hs ev c = tryR sub hs (b ev c) := by
  unfold sTry tryR
  cases b ev c <;> rfl
theorem tryR_ret (sub : Str → Str → Option Bool) (hs : List Hd) (d : D) (c : Int) : tryR sub hs (.ret d c) = .ret d c := rfl
theorem tryR_nx (sub : Str → Str → Option Bool) (hs : List Hd) (ev : Env) (c : Int) : tryR sub hs (.nx ev c) = .nx ev c := rfl
theorem tryR_exc (sub : Str → Str → Option Bool) (hs : List Hd) (x : XD) (ev : Env) (c : Int) : tryR sub hs (.exc x ev c) = hL sub hs x ev c := rfl
theorem ixN4_0 : L2.ixN 4 0 = some 0 := rfl
theorem ixN4_1 : L2.ixN 4 1 = some 1 := rfl
theorem ixN4_2 : L2.ixN 4 2 = some 2 := rfl
theorem ixN4_3 : L2.ixN 4 3 = some 3 := rfl
def chainR (d : D) (c : Int) (k : Int → R D) : R D := match d with
  | .bl true => k c
  | .bl false => .ok (.bl false) c
  | _ => .bad
theorem chainR_bl (b : Bool) (c : Int) (k : Int → R D) : chainR (.bl b) c k = if b = true then k c else .ok (.bl false) c := by cases b <;> rfl
theorem eChain_eq (g g' : D → D → Option D) (a b d : E) (ev : Env) (c : Int) : eChain g g' a b d ev c = (a ev c).bind fun x c => (b ev c).bind fun y c => (R.of (g x y) c).bind fun z c => chainR z c fun c => (d ev c).bind fun w c => R.of (g' y w) c := by
  unfold eChain
  congr 1
theorem chain_true (c : Int) (k : Int → R D) : chainR (.bl true) c k = k c := rfl
theorem chain_false (c : Int) (k : Int → R D) : chainR (.bl false) c k = .ok (.bl false) c := rfl
theorem atI_4 {α : Type} (x y z u v : α) (xs : List α) : L2.atI (x :: y :: z :: u :: v :: xs) 4 = some v := by
  have := atI_lit (x :: y :: z :: u :: v :: xs) 4
  simpa using this
theorem atI_5 {α : Type} (x y z u v w : α) (xs : List α) : L2.atI (x :: y :: z :: u :: v :: w :: xs) 5 = some w := by
  have := atI_lit (x :: y :: z :: u :: v :: w :: xs) 5
  simpa using this
theorem atI_6 {α : Type} (x y z u v w t : α) (xs : List α) : L2.atI (x :: y :: z :: u :: v :: w :: t :: xs) 6 = some t := by
  have := atI_lit (x :: y :: z :: u :: v :: w :: t :: xs) 6
  simpa using this
theorem dSub_bl (a b : Bool) : dSub (.bl a) (.bl b) = some (.int (PyProof.Rows.b2i a - PyProof.Rows.b2i b)) := rfl
theorem dIsi_int (i : Int) : dIsi [.int i, .ty "int"] = some (.bl true) := rfl
theorem dIsi_intb (i : Int) : dIsi [.int i, .ty "bool"] = some (.bl false) := rfl
theorem dIsi_intt (i : Int) : dIsi [.int i, .ty "tuple"] = some (.bl false) := rfl
theorem dIsi_tupt (xs : List D) : dIsi [.tup xs, .ty "tuple"] = some (.bl true) := rfl
theorem dIsi_tup (xs : List D) : dIsi [.tup xs, .ty "int"] = some (.bl false) := rfl
theorem dIsi_non : dIsi [.non, .ty "tuple"] = some (.bl false) := rfl
/-- a bound that nothing evaluates -/
@[irreducible] def big : Nat := 2 ^ 1000
theorem big_eq : big = 2 ^ 1000 := by unfold big; rfl
theorem big_le : big ≤ 2 ^ 4000 := by
  rw [big_eq]
  exact Nat.pow_le_pow_right (by decide) (by decide)
theorem mulOk_big {i j : Int} (hi : i.natAbs < big) (hj : j.natAbs < big) : mulOk i j = true := mulOk_of (Nat.lt_of_lt_of_le hi big_le) (Nat.lt_of_lt_of_le hj big_le)
theorem pow_big {k : Nat} (h : k ≤ 900) : (2 : Nat) ^ k < big := by
  rw [big_eq]
  exact Nat.pow_lt_pow_right (by decide) (by omega)
theorem fm2 (i : Int) : i.fmod 2 = 0 ∨ i.fmod 2 = 1 := by
  have h1 := Int.fmod_nonneg_of_pos i (show (0 : Int) < 2 by decide)
  have h2 := Int.fmod_lt_of_pos i (show (0 : Int) < 2 by decide)
  omega
theorem setE_self {ev : Env} {i : Nat} {x : S} (h : ev[i]? = some x) : ev.set i x = ev := by
  refine List.ext_getElem? fun k => ?_
  rw [List.getElem?_set]
  split
  · rename_i e
    subst e
    rw [h]
    have : i < ev.length := by
      rw [List.getElem?_eq_some_iff] at h
      exact h.1
    rw [if_pos this]
  · rfl
theorem set_any (ev : Env) (j : Nat) : ∃ s : S, ev.set j s = ev := by
  cases e : ev[j]? with
  | some s => exact ⟨s, setE_self e⟩
  | none =>
    refine ⟨.no, ?_⟩
    rw [List.getElem?_eq_none_iff] at e
    exact List.set_eq_of_length_le e
/-- v * k, m times, in slot i -/
theorem mulLoop {i j : Nat} {k : Int} (hk : ∀ v, mulOk v k = true) : ∀ (ds : List D) (v : Int) (ev : Env) (c : Int), i ≠ j → ev[i]? = some (.val (.int v)) → ∃ s : S, forL (.nm j) (sAug i dMulI (eK (.int k))) ds ev c = .nx ((ev.set i (.val (.int (v * k ^ ds.length)))).set j s) c
  | [], v, ev, c, hij, h => by
    obtain ⟨s, e⟩ := set_any ev j
    refine ⟨s, ?_⟩
    rw [forL_nil, List.length_nil, Int.pow_zero, Int.mul_one, setE_self h, e]
  | d :: ds, v, ev, c, hij, h => by
    have h1 : (ev.set j (.val d))[i]? = some (.val (.int v)) := by
      rw [List.getElem?_set_ne (Ne.symm hij)]
      exact h
    have lt : i < ev.length := by
      rw [List.getElem?_eq_some_iff] at h
      exact h.1
    have h2 : ((ev.set j (.val d)).set i (.val (.int (v * k))))[i]? = some (.val (.int (v * k))) := by
      rw [List.getElem?_set_self (by simpa using lt)]
    obtain ⟨s, e⟩ := mulLoop hk ds (v * k) ((ev.set j (.val d)).set i (.val (.int (v * k)))) c hij h2
    refine ⟨s, ?_⟩
    rw [forL_cons, bindP_nm, bindO_some, sAug_eq, h1]
    simp only [augS_val, eK, toS_ok, dMulI_int, hk, if_true, of_some, loopR_nx]
    rw [e, List.set_set, List.set_comm _ _ (Ne.symm hij), List.set_set, List.length_cons, Int.pow_succ, Int.mul_assoc, Int.mul_comm k]
/-- v * k, m times, by a plain assignment -/
theorem mulLoop2 {i j : Nat} {k : Int} (hk : ∀ v, mulOk v k = true) : ∀ (ds : List D) (v : Int) (ev : Env) (c : Int), i ≠ j → ev[i]? = some (.val (.int v)) → ∃ s : S, forL (.nm j) (sSet i (eBin dMul (eVar i) (eK (.int k)))) ds ev c = .nx ((ev.set i (.val (.int (v * k ^ ds.length)))).set j s) c
  | [], v, ev, c, hij, h => by
    obtain ⟨s, e⟩ := set_any ev j
    refine ⟨s, ?_⟩
    rw [forL_nil, List.length_nil, Int.pow_zero, Int.mul_one, setE_self h, e]
  | d :: ds, v, ev, c, hij, h => by
    have h1 : (ev.set j (.val d))[i]? = some (.val (.int v)) := by
      rw [List.getElem?_set_ne (Ne.symm hij)]
      exact h
    have lt : i < ev.length := by
      rw [List.getElem?_eq_some_iff] at h
      exact h.1
    have h2 : ((ev.set j (.val d)).set i (.val (.int (v * k))))[i]? = some (.val (.int (v * k))) := by
      rw [List.getElem?_set_self (by simpa using lt)]
    obtain ⟨s, e⟩ := mulLoop2 hk ds (v * k) ((ev.set j (.val d)).set i (.val (.int (v * k)))) c hij h2
    refine ⟨s, ?_⟩
    rw [forL_cons, bindP_nm, bindO_some]
    simp only [sSet, eBin, eVar_eq, h1, gV_val, bind_ok, eK, toS_ok, dMul_int, hk, if_true, of_some, loopR_nx]
    rw [e, List.set_set, List.set_comm _ _ (Ne.symm hij), List.set_set, List.length_cons, Int.pow_succ, Int.mul_assoc, Int.mul_comm k]
theorem fm8 (i : Int) : i.fmod 8 = 0 ∨ i.fmod 8 = 1 ∨ i.fmod 8 = 2 ∨ i.fmod 8 = 3 ∨ i.fmod 8 = 4 ∨ i.fmod 8 = 5 ∨ i.fmod 8 = 6 ∨ i.fmod 8 = 7 := by
  have h1 := Int.fmod_nonneg_of_pos i (show (0 : Int) < 8 by decide)
  have h2 := Int.fmod_lt_of_pos i (show (0 : Int) < 8 by decide)
  omega
end DW

set_option Elab.async false
set_option linter.all false
set_option maxRecDepth 100000
set_option maxHeartbeats 2000000
/-! EVL: comprehensions and loops over lists of any length. -/
namespace DW
open PySem
section
variable {α β : Type}
theorem lcL_map {p : Pt} {e : E} {ev : Env} {c : Int} (φ ψ : α → D) : ∀ (xs : List α), (∀ x ∈ xs, ∃ ev1, bindP p (φ x) ev = some ev1 ∧ e ev1 c = .ok (ψ x) c) → lcL p tYesD e ev (xs.map φ) c = .ok (xs.map ψ) c
  | [], _ => rfl
  | x :: xs, h => by
    obtain ⟨ev1, e1, e2⟩ := h x (List.mem_cons_self ..)
    have ty : tYesD ev1 c = .ok true c := rfl
    rw [List.map_cons, lcL_cons, e1, bindOR_some, ty, bind_ok, if_pos rfl, e2, bind_ok, lcL_map φ ψ xs fun y hy => h y (List.mem_cons_of_mem _ hy), bind_ok, List.map_cons]
theorem lcL_fm {p : Pt} {t : T} {e : E} {ev : Env} {c : Int} (φ ψ : α → D) (f : α → Bool) : ∀ (xs : List α), (∀ x ∈ xs, ∃ ev1, bindP p (φ x) ev = some ev1 ∧ t ev1 c = .ok (f x) c ∧ (f x = true → e ev1 c = .ok (ψ x) c)) → lcL p t e ev (xs.map φ) c = .ok ((xs.filter f).map ψ) c
  | [], _ => rfl
  | x :: xs, h => by
    obtain ⟨ev1, e1, e2, e3⟩ := h x (List.mem_cons_self ..)
    have ih := lcL_fm φ ψ f xs fun y hy => h y (List.mem_cons_of_mem _ hy)
    rw [List.map_cons, lcL_cons, e1, bindOR_some, e2, bind_ok]
    by_cases z : f x = true
    · rw [if_pos z, e3 z, bind_ok, ih, bind_ok, List.filter_cons_of_pos z, List.map_cons]
    · rw [if_neg z, ih, List.filter_cons_of_neg z]
theorem lcL2_map {p p1 : Pt} {it1 : EL} {e : E} {vs1 : List Nat} {ev : Env} {c : Int} (φ : α → D) (χ : β → D) (ψ : α → β → D) (ys : α → List β) : ∀ (xs : List α),
    (∀ x ∈ xs, ∃ ev1, bindP p (φ x) ev = some ev1 ∧ it1 ev1 c = .ok ((ys x).map χ) c ∧ ownFree vs1 ev1 = true ∧ ∀ y ∈ ys x, ∃ ev2, bindP p1 (χ y) (wipeE vs1 ev1) = some ev2 ∧ e ev2 c = .ok (ψ x y) c) →
    lcL2 p tYesD it1 p1 tYesD e vs1 ev (xs.map φ) c = .ok (xs.flatMap fun x => (ys x).map (ψ x)) c
  | [], _ => rfl
  | x :: xs, h => by
    obtain ⟨ev1, e1, e2, e3, e4⟩ := h x (List.mem_cons_self ..)
    have ih := lcL2_map φ χ ψ ys xs fun y hy => h y (List.mem_cons_of_mem _ hy)
    have ty : tYesD ev1 c = .ok true c := rfl
    rw [List.map_cons, lcL2, e1]
    dsimp only
    rw [ty, bind_ok, if_pos rfl, e2, bind_ok, if_pos e3, lcL_map χ (ψ x) (ys x) e4, bind_ok, ih, bind_ok, List.flatMap_cons]
theorem zipD_map (φ : α → D) (χ : β → D) : ∀ (xs : List α) (ys : List β), zipD (xs.map φ) (ys.map χ) = (xs.zip ys).map fun p => .tup [φ p.1, χ p.2]
  | [], ys => by cases ys <;> rfl
  | _ :: _, [] => rfl
  | x :: xs, y :: ys => by
    rw [List.map_cons, List.map_cons, zipD_cons, zipD_map φ χ xs ys]
    rfl
theorem enumD_map (φ : α → D) : ∀ (xs : List α) (n : Nat), enumD n (xs.map φ) = (xs.zipIdx n).map fun p => .tup [.int (p.2 : Nat), φ p.1]
  | [], n => rfl
  | x :: xs, n => by
    rw [List.map_cons, enumD_cons, enumD_map φ xs (n + 1)]
    rfl
theorem itInts_range : ∀ (n : Nat) (lo : Int), itInts lo n = (List.range n).map fun i => .int (lo + i)
  | 0, _ => rfl
  | n + 1, lo => by
    rw [itInts_succ, itInts_range n (lo + 1), List.range_succ_eq_map, List.map_cons, List.map_map]
    congr 1
    · simp
    · refine List.map_congr_left fun i _ => ?_
      show D.int (lo + 1 + i) = .int (lo + ((i + 1 : Nat) : Int))
      congr 1
      omega
theorem itR1_map (m : Nat) (h : m < 2 ^ 62) : itR1 [.int m] = some ((List.range m).map fun i => .int (i : Nat)) := by
  rw [itR1_nat m h, itInts_range]
  congr 1
  refine List.map_congr_left fun i _ => ?_
  congr 1
  omega
theorem atI_map (φ : α → D) {xs : List α} {i : Nat} (h : i < xs.length) : L2.atI (xs.map φ) (i : Int) = some (φ xs[i]) := by
  rw [atI_lit, List.length_map, if_pos h, List.getElem?_map, List.getElem?_eq_getElem h]
  rfl
/-- a loop: an invariant, turn by turn -/
theorem forL_inv {p : Pt} {b : SF} {c : Int} (φ : α → D) (R : β → Env → Prop) (step : α → β → β) : ∀ (xs : List α) (s : β) (ev : Env), R s ev → (∀ x ∈ xs, ∀ s ev, R s ev → ∃ ev1 ev2, bindP p (φ x) ev = some ev1 ∧ b ev1 c = .nx ev2 c ∧ R (step x s) ev2) →
    ∃ ev', forL p b (xs.map φ) ev c = .nx ev' c ∧ R (xs.foldl (fun s x => step x s) s) ev'
  | [], s, ev, r, _ => ⟨ev, rfl, r⟩
  | x :: xs, s, ev, r, h => by
    obtain ⟨ev1, ev2, e1, e2, r2⟩ := h x (List.mem_cons_self ..) s ev r
    obtain ⟨ev', e3, r3⟩ := forL_inv φ R step xs (step x s) ev2 r2 fun y hy => h y (List.mem_cons_of_mem _ hy)
    refine ⟨ev', ?_, r3⟩
    rw [List.map_cons, forL_cons, e1, bindO_some, e2, loopR_nx, e3]
end
section
variable {α : Type}
/-- a loop that may return -/
theorem forL_find {p : Pt} {b : SF} {c : Int} (φ : α → D) (I : Env → Prop) (f : α → Option D) : ∀ (xs : List α) (ev : Env), I ev → (∀ x ∈ xs, ∀ ev, I ev → ∃ ev1, bindP p (φ x) ev = some ev1 ∧ (f x = none → ∃ ev2, b ev1 c = .nx ev2 c ∧ I ev2) ∧ ∀ d, f x = some d → b ev1 c = .ret d c) →
    (xs.findSome? f = none → ∃ ev', forL p b (xs.map φ) ev c = .nx ev' c ∧ I ev') ∧ ∀ d, xs.findSome? f = some d → forL p b (xs.map φ) ev c = .ret d c
  | [], ev, r, _ => ⟨fun _ => ⟨ev, rfl, r⟩, fun d h => by cases h⟩
  | x :: xs, ev, r, h => by
    obtain ⟨ev1, e1, h1, h2⟩ := h x (List.mem_cons_self ..) ev r
    rw [List.map_cons, forL_cons, e1, bindO_some, List.findSome?_cons]
    cases q : f x with
    | some d =>
      have e := h2 d q
      refine ⟨fun z => (by cases z), fun d' z => ?_⟩
      cases z
      rw [e, loopR_ret]
    | none =>
      obtain ⟨ev2, e2, r2⟩ := h1 q
      obtain ⟨i1, i2⟩ := forL_find φ I f xs ev2 r2 fun y hy => h y (List.mem_cons_of_mem _ hy)
      rw [e2, loopR_nx]
      exact ⟨i1, i2⟩
theorem findSome_all (g : α → Bool) (d : D) : ∀ xs : List α, (xs.findSome? fun x => if g x = true then none else some d) = if xs.all g = true then none else some d
  | [] => rfl
  | x :: xs => by
    rw [List.findSome?_cons, List.all_cons]
    cases q : g x with
    | true =>
      rw [if_pos rfl, Bool.true_and]
      exact findSome_all g d xs
    | false => rfl
end
theorem lc2_bind (it : EL) (p : Pt) (t : T) (it1 : EL) (p1 : Pt) (t1 : T) (e : E) (vs vs1 : List Nat) (ev : Env) (c : Int) : eLc2 it p t it1 p1 t1 e vs vs1 ev c = (it ev c).bind fun ds c => if ownFree vs ev = true then R.noX ((lcL2 p t it1 p1 t1 e vs1 (wipeE vs ev) ds c).bind fun ys c => if ys.length ≤ sizeLine then .ok (.lst ys) c else .bad) else .bad := rfl
theorem dIn_def (x y : D) : dIn x y = (dMem x y).map .bl := rfl
theorem dNin_def (x y : D) : dNin x y = (dMem x y).map fun b => .bl (!b) := rfl
theorem eqv_int (i j : Int) : D.eqv (.int i) (.int j) = (i == j) := rfl
theorem noX_if {α : Type} (p : Prop) [Decidable p] (a b : R α) : R.noX (if p then a else b) = if p then R.noX a else R.noX b := by split <;> rfl
end DW

set_option Elab.async false
set_option linter.all false
set_option maxRecDepth 100000
set_option maxHeartbeats 2000000
namespace LAW
open DW PySem
local macro_rules | `(tactic| simp! [$ts,*]) => `(tactic| simp -implicitDefEqProofs only [runF_eq, sSeq_eq, and_nx, and_ret, and_exc, and_brk, and_cnt, and_bad, and_ite, bind_ok, bind_exc, bind_bad, bind_ite, toS_ok, toS_exc, toS_bad, toS_ite, of_some, of_none, of_ite, gV_val, eVar_eq, gO_own, eBor_eq, gA_own, gA_val, eAny_eq, runR_ret, runR_nx, runR_exc, runR_ite, bindO_some, bindOR_some, sAsg_eq, loopR_nx, loopR_cnt, loopR_brk, loopR_ret, loopR_exc, loopR_ite, forL_nil, forL_cons, lcL_nil, lcL_cons, noX_ok, bindP_nm, bindP_tp, bindPs_nil, bindPs_cons, dIx_tup, dIx_lst, atI_0, atI_1, atI_2, atI_3, dSub_int, dAdd_int, dMul_int, dMulI_int, dAddI_int, dSubI_int, dNeg_int, dMod_int, dFdiv_int, dLt_int, dLe_int, dGt_int, dGe_int, dTru_int, dTru_bl, dTru_lst, dTru_tup, dTru_non, divOk2, itSeq_lst, itSeq_tup, ownFree_nil, ownFree_cons, dTuple_lst, dTuple_tup, dList_lst, dList_tup, dLen_lst, dLen_tup, opt_bind_some, sSet, sRet, sRetN, sNil, sDrop, sIf, sBrk, sCnt, sFor, sOwn, eBin, eUn, eK, eIf, eAnd, eOr, eNot, tTru, tAnd, tOr, tNot, aNil, aCons, eTup, eLst, eFn, eLc, iOf, iOf1, tYesD, wipeE, eCall, List.map_cons, List.map_nil, List.replicate_succ, List.replicate_zero, List.cons_append, List.nil_append, List.set_cons_zero, List.set_cons_succ, List.getElem?_cons_zero, List.getElem?_cons_succ, List.length_cons, List.length_nil, Nat.zero_add, Nat.reduceAdd, Nat.reduceSub, Nat.reduceLT, Nat.reduceLeDiff, if_true, ite_true, reduceIte, if_false, Bool.true_and, Bool.and_true, notOwn_no, notOwn_val, sizeLine_eq, Bool.not_true, Bool.not_false, List.isEmpty_cons, List.isEmpty_nil, dAny_lst, dAll_lst, flatT_int, flatT_bl, sPar_eq, eCs_nil, eCs_val, eCs_own, setAll_nil, setAll_cons, all_nil, all_cons, dMax2_int, dMin2_int, dAbs_int, dInt_int, itZip_lst, itZip_tup, zipD_cons, zipD_nil, itEnum_lst, itEnum_tup, enumD4, sAug_eq, augS_val, ownL_own, intS_int, optS_some, sApp_eq, sAugIx_eq, sPut_eq, putR_int, sFz_eq, fzS_own, fzS_val, List.all_cons, List.all_nil, List.any_cons, List.any_nil, Option.isSome_some, Option.getD_some, and_true, true_and, and_self, Bool.or_false, Bool.false_eq_true, dEq_int, dNe_int, dEq_nil, dNe_nil, fits_nil, fits_int, mulOk_r2, ne_eq, Int.reduceEq, not_false_eq_true, not_true_eq_false, Int.reduceBNe, Int.reduceBEq, Bool.not_true, Bool.not_false, decide_true, decide_false, Bool.false_or, Bool.or_true, Bool.true_or, Bool.and_false, Bool.false_and, itR1_3, itR1_4, itR1_7, itR1_8, Int.reduceAdd, Int.reduceSub, Int.reduceMul, Int.reduceLT, Int.reduceLE, Int.reduceNeg, fmod4_0, fmod4_1, fmod4_2, fmod4_3, fmod4_4, fmod4_5, fmod4_6, ixN4_0, ixN4_1, ixN4_2, ixN4_3, chain_true, chain_false, decide_eq_true_eq, atI_4, atI_5, atI_6, eChain_eq, chainR_bl, dSub_bl, dIsi_int, dIsi_tup, dIsi_intb, dIsi_intt, dIsi_tupt, dIsi_non, fmod4_7, dAdd_lst, gC_cell, eCell_eq, pC_cell, sCell_eq, eCallV_eq, sTry_eq, tryR_ret, tryR_nx, $ts,*])
theorem dt {p : Prop} [Decidable p] (h : p) : decide p = true := decide_eq_true h
theorem df {p : Prop} [Decidable p] (h : ¬ p) : decide p = false := decide_eq_false h
def Nn (ds : List Int) : Prop := ∀ d ∈ ds, 0 ≤ d
abbrev L (ds : List Int) : DW.D := .lst (ds.map .int)
theorem nn_app {ds : List Int} {i : Int} (h : Nn ds) (hi : 0 ≤ i) : Nn (ds ++ [i]) := fun d hd => by
  rcases List.mem_append.mp hd with q | q
  · exact h d q
  · rw [List.mem_singleton.mp q]
    exact hi
theorem L_app (ds : List Int) (i : Int) : (ds.map DW.D.int) ++ [.int i] = (ds ++ [i]).map DW.D.int := by simp
theorem d1009 : divOk 1009 = true := by decide
theorem draws_a (s0 s2 s5 : DW.S) (c : Int) : ∀ (l : List DW.D) (ds : List Int) (rest : Int) (s4 : DW.S), Nn ds → ds.length + l.length < sizeLine → 0 ≤ rest → ∃ ds' s3' s4', Nn ds' ∧ ds'.length ≤ ds.length + l.length ∧
    forL (.nm 4) (sIf (tTru (eBin dGt (eVar 3) (eK (.int 0)))) (sSeq (sApp 1 (eBin dMod (eFn dInt (aCons (eVar 3) (aNil))) (eK (.int 1009)))) (sSet 3 (eBin dFdiv (eVar 3) (eK (.int 1009))))) (sNil)) l
      [s0, .own (L ds), s2, .val (.int rest), s4, s5] c = .nx [s0, .own (L ds'), s2, s3', s4', s5] c
  | [], ds, rest, s4, h, hl, hr => ⟨ds, .val (.int rest), s4, h, by simp, rfl⟩
  | d :: l, ds, rest, s4, h, hl, hr => by
    rw [List.length_cons] at hl
    by_cases z : 0 < rest
    · have m0 : 0 ≤ rest.fmod 1009 := Int.fmod_nonneg_of_pos _ (by decide)
      have f0 : 0 ≤ rest.fdiv 1009 := by rw [Int.fdiv_eq_ediv_of_nonneg _ (by decide)]; omega
      obtain ⟨ds', s3', s4', n1, n2, e⟩ := draws_a s0 s2 s5 c l (ds ++ [rest.fmod 1009]) (rest.fdiv 1009) (.val d) (nn_app h m0) (by rw [List.length_append]; simp; omega) f0
      refine ⟨ds', s3', s4', n1, by rw [List.length_append] at n2; simp at n2 ⊢; omega, ?_⟩
      have lt : (ds.map DW.D.int).length < 16777216 := by rw [List.length_map, ← sizeLine_eq]; omega
      simp! [dt z, d1009, lt, L_app, e]
    · obtain ⟨ds', s3', s4', n1, n2, e⟩ := draws_a s0 s2 s5 c l ds rest (.val d) h (by omega) hr
      refine ⟨ds', s3', s4', n1, by rw [List.length_cons]; omega, ?_⟩
      simp! [df z, e]
theorem draws_b (s0 s2 s3 : DW.S) (c : Int) : ∀ (n : Nat) (lo : Int) (ds : List Int) (mixed : Int) (s4 : DW.S), Nn ds → ds.length + n < sizeLine → ∃ ds' s4' s5', Nn ds' ∧ ds'.length ≤ ds.length + n ∧
    forL (.nm 4) (sSeq (sSet 5 (eBin dMod (eFn dInt (aCons (eBin dAdd (eBin dAdd (eBin dMul (eVar 5) (eK (.int 16807))) (eBin dMul (eK (.int 69621)) (eVar 4))) (eK (.int 5))) (aNil))) (eK (.int 2147483629)))) (sApp 1 (eBin dFdiv (eVar 5) (eK (.int 1009))))) (itInts lo n)
      [s0, .own (L ds), s2, s3, s4, .val (.int mixed)] c = .nx [s0, .own (L ds'), s2, s3, s4', s5'] c
  | 0, lo, ds, mixed, s4, h, hl => ⟨ds, s4, .val (.int mixed), h, by simp, rfl⟩
  | n + 1, lo, ds, mixed, s4, h, hl => by
    have m0 : 0 ≤ (mixed * 16807 + 69621 * lo + 5).fmod 2147483629 := Int.fmod_nonneg_of_pos _ (by decide)
    have f0 : 0 ≤ ((mixed * 16807 + 69621 * lo + 5).fmod 2147483629).fdiv 1009 := by rw [Int.fdiv_eq_ediv_of_nonneg _ (by decide)]; omega
    obtain ⟨ds', s4', s5', n1, n2, e⟩ := draws_b s0 s2 s3 c n (lo + 1) (ds ++ [((mixed * 16807 + 69621 * lo + 5).fmod 2147483629).fdiv 1009]) ((mixed * 16807 + 69621 * lo + 5).fmod 2147483629) (.val (.int lo)) (nn_app h f0) (by rw [List.length_append]; simp; omega)
    refine ⟨ds', s4', s5', n1, by rw [List.length_append] at n2; simp at n2; omega, ?_⟩
    have lt : (ds.map DW.D.int).length < 16777216 := by rw [List.length_map, ← sizeLine_eq]; omega
    have o1 : mulOk mixed 16807 = true := mulOk_r (by decide)
    have o2 : mulOk 69621 lo = true := mulOk_l (by decide)
    rw [itInts_succ]
    simp! [o1, o2, d1009, lt, L_app, e]
noncomputable def cellB : SF := sSeq (sSet 3 (eFn dAbs (aCons (eVar 2) (aNil)))) (sIf (tTru (eBin dGe (eVar 3) (eBin dPow (eK (.int 10)) (eK (.int 18))))) (sFor (iOf itR1 (aCons (eK (.int 60)) (aNil))) (.nm 4) (sIf (tTru (eBin dGt (eVar 3) (eK (.int 0)))) (sSeq (sApp 1 (eBin dMod (eFn dInt (aCons (eVar 3) (aNil))) (eK (.int 1009)))) (sSet 3 (eBin dFdiv (eVar 3) (eK (.int 1009))))) (sNil)))
  (sSeq (sSet 5 (eBin dMod (eFn dInt (aCons (eBin dAdd (eBin dMul (eVar 3) (eK (.int 48271))) (eK (.int 11))) (aNil))) (eK (.int 2147483647)))) (sFor (iOf itR1 (aCons (eK (.int 12)) (aNil))) (.nm 4) (sSeq (sSet 5 (eBin dMod (eFn dInt (aCons (eBin dAdd (eBin dAdd (eBin dMul (eVar 5) (eK (.int 16807))) (eBin dMul (eK (.int 69621)) (eVar 4))) (eK (.int 5))) (aNil))) (eK (.int 2147483629)))) (sApp 1 (eBin dFdiv (eVar 5) (eK (.int 1009))))))))
theorem cell_go (s0 : DW.S) (c cell : Int) (ds : List Int) (s3 s4 s5 : DW.S) (h : Nn ds) (hl : ds.length + 60 < sizeLine) : ∃ ds' s3' s4' s5', Nn ds' ∧ ds'.length ≤ ds.length + 60 ∧ cellB [s0, .own (L ds), .val (.int cell), s3, s4, s5] c = .nx [s0, .own (L ds'), .val (.int cell), s3', s4', s5'] c := by
  have i60 := itR1_nat 60 (by decide)
  have i12 := itR1_nat 12 (by decide)
  rw [show ((60 : Nat) : Int) = 60 from rfl] at i60
  rw [show ((12 : Nat) : Int) = 12 from rfl] at i12
  have pw : dPow (.int 10) (.int 18) = some (.int 1000000000000000000) := by rfl
  have a0 : 0 ≤ (if cell < 0 then -cell else cell) := by split <;> omega
  generalize hr : (if cell < 0 then -cell else cell) = rest at a0
  unfold cellB
  by_cases z : 1000000000000000000 ≤ rest
  · obtain ⟨ds', s3', s4', n1, n2, e⟩ := draws_a s0 (.val (.int cell)) s5 c (itInts 0 60) ds rest s4 h (by rw [itInts_length]; exact hl) a0
    rw [itInts_length] at n2
    refine ⟨ds', s3', s4', s5, n1, n2, ?_⟩
    simp! [hr, pw, dt z, i60, e]
  · obtain ⟨ds', s4', s5', n1, n2, e⟩ := draws_b s0 (.val (.int cell)) (.val (.int rest)) c 12 0 ds ((rest * 48271 + 11).fmod 2147483647) s4 h (by omega)
    refine ⟨ds', .val (.int rest), s4', s5', n1, by omega, ?_⟩
    have o1 : mulOk rest 48271 = true := mulOk_r (by decide)
    simp! [hr, pw, df z, i12, o1, e]
theorem cells_go (s0 : DW.S) (c : Int) : ∀ (ms : List Int) (ds : List Int) (s2 s3 s4 s5 : DW.S), Nn ds → ds.length + 60 * ms.length < sizeLine → ∃ ds' s2' s3' s4' s5', Nn ds' ∧ ds'.length ≤ ds.length + 60 * ms.length ∧ forL (.nm 2) cellB (ms.map .int) [s0, .own (L ds), s2, s3, s4, s5] c = .nx [s0, .own (L ds'), s2', s3', s4', s5'] c
  | [], ds, s2, s3, s4, s5, h, _ => ⟨ds, s2, s3, s4, s5, h, by simp, rfl⟩
  | m :: ms, ds, s2, s3, s4, s5, h, hl => by
    rw [List.length_cons] at hl
    obtain ⟨ds1, t3, t4, t5, n1, n2, e1⟩ := cell_go s0 c m ds s3 s4 s5 h (by omega)
    obtain ⟨ds2, u2, u3, u4, u5, n3, n4, e2⟩ := cells_go s0 c ms ds1 (.val (.int m)) t3 t4 t5 n1 (by omega)
    refine ⟨ds2, u2, u3, u4, u5, n3, by rw [List.length_cons]; omega, ?_⟩
    rw [List.map_cons]
    simp! [e1, e2]
theorem m_draws_eq : m__law_draws = sSeq (sOwn 1 (eLst (aNil))) (sSeq (sFor (iOf1 itSeq (eSl (eVar 0) (oNo) (oSo (eK (.int 63))))) (.nm 2) cellB) (sFz 1 (sRet (eVar 1)))) := rfl
theorem cut_ints (ns : List Int) (hi : Option Int) : ∃ ms : List Int, cutD (ns.map .int) none hi = ms.map .int ∧ ms.length ≤ ns.length := by
  unfold cutD
  refine ⟨(ns.drop (HT.sIx (ns.map DW.D.int).length 0 none)).take (HT.sIx (ns.map DW.D.int).length (ns.map DW.D.int).length hi - HT.sIx (ns.map DW.D.int).length 0 none), ?_, ?_⟩
  · rw [List.map_take, List.map_drop]
  · rw [List.length_take, List.length_drop]
    omega
theorem ev_draws (ns : List Int) (c : Int) (h : ns.length ≤ 63) : ∃ ds : List Int, Nn ds ∧ ds.length ≤ 3780 ∧ F__law_draws [.scr ns] c = .ok (L ds) c := by
  obtain ⟨ms, e, hm⟩ := cut_ints ns (some 63)
  obtain ⟨ds, s2, s3, s4, s5, n1, n2, e2⟩ := cells_go (.val (.scr ns)) c ms [] .no .no .no .no (fun d hd => by cases hd) (by rw [sizeLine_eq]; simp; omega)
  refine ⟨ds, n1, by simp at n2; omega, ?_⟩
  have es : eSl (eVar 0) (oNo) (oSo (eK (.int 63))) [.val (.scr ns), .own (L []), .no, .no, .no, .no] c = .ok (L ms) c := by
    show R.of (dSl (.scr ns) none (some 63)) c = _
    rw [show dSl (.scr ns) none (some 63) = some (.lst (cutD (ns.map .int) none (some 63))) from rfl, e]
    rfl
  unfold F__law_draws
  rw [m_draws_eq]
  have z : L [] = .lst [] := rfl
  rw [z] at es e2
  simp! [es, e2]
theorem L_at {ds : List Int} {i : Int} (h0 : 0 ≤ i) (h1 : i < ds.length) : ∃ d, d ∈ ds ∧ L2.atI (ds.map DW.D.int) i = some (.int d) := by
  obtain ⟨n, rfl⟩ : ∃ n : Nat, i = n := ⟨i.toNat, by omega⟩
  have hn : n < ds.length := by omega
  refine ⟨ds[n], List.getElem_mem _, ?_⟩
  rw [atI_lit, List.length_map, if_pos hn, List.getElem?_map, List.getElem?_eq_getElem hn]
  rfl
noncomputable def moreB : SF := sSeq (sIf (tTru (eVar 0)) (sSet 2 (eBin dAdd (eVar 2) (eBin dIx (eVar 0) (eBin dMod (eFn dInt (aCons (eBin dAdd (eBin dMul (eVar 1) (eBin dAdd (eVar 3) (eK (.int 5)))) (eVar 3)) (aNil))) (eFn dLen (aCons (eVar 0) (aNil))))))) (sNil)) (sSet 2 (eBin dMod (eFn dInt (aCons (eBin dAdd (eBin dAdd (eBin dMul (eVar 2) (eK (.int 16807))) (eBin dMul (eK (.int 69621)) (eVar 3))) (eK (.int 5))) (aNil))) (eK (.int 2147483629))))
theorem more_go {ds : List Int} (h : Nn ds) (p mixed k c : Int) (hk : k.natAbs < 1000) : ∃ m', 0 ≤ m' ∧ moreB [.val (L ds), .val (.int p), .val (.int mixed), .val (.int k)] c = .nx [.val (L ds), .val (.int p), .val (.int m'), .val (.int k)] c := by
  have o1 : ∀ i, mulOk i 16807 = true := fun i => mulOk_r (by decide)
  have o2 : ∀ i, mulOk 69621 i = true := fun i => mulOk_l (by decide)
  have o3 : mulOk p (k + 5) = true := mulOk_r (by omega)
  unfold moreB
  cases hd : ds with
  | nil =>
    refine ⟨(mixed * 16807 + 69621 * k + 5).fmod 2147483629, Int.fmod_nonneg_of_pos _ (by decide), ?_⟩
    simp! [o1, o2]
  | cons d0 dr =>
    have lp : (0 : Int) < ((dr.length + 1 : Nat) : Int) := by omega
    have r0 := Int.fmod_nonneg_of_pos (p * (k + 5) + k) lp
    have r1 := Int.fmod_lt_of_pos (p * (k + 5) + k) lp
    obtain ⟨d, hm, e⟩ := L_at (ds := d0 :: dr) r0 (by rw [List.length_cons]; exact r1)
    rw [List.map_cons] at e
    refine ⟨((mixed + d) * 16807 + 69621 * k + 5).fmod 2147483629, Int.fmod_nonneg_of_pos _ (by decide), ?_⟩
    have lz : ((dr.length + 1 : Nat) : Int) ≠ 0 := by omega
    simp! [L, List.length_map, o1, o2, o3, lz, e]
theorem m_more_eq : m__law_more = sSeq (sSet 2 (eBin dMod (eFn dInt (aCons (eBin dAdd (eBin dAdd (eBin dMul (eVar 1) (eK (.int 48271))) (eFn dLen (aCons (eVar 0) (aNil)))) (eK (.int 11))) (aNil))) (eK (.int 2147483629)))) (sSeq (sFor (iOf itR1 (aCons (eK (.int 3)) (aNil))) (.nm 3) moreB) (sRet (eBin dFdiv (eVar 2) (eK (.int 1009))))) := rfl
theorem ev_more {ds : List Int} (h : Nn ds) (p c : Int) : ∃ r, 0 ≤ r ∧ F__law_more [L ds, .int p] c = .ok (.int r) c := by
  obtain ⟨m1, h1, e1⟩ := more_go h p ((p * 48271 + ds.length + 11).fmod 2147483629) 0 c (by decide)
  obtain ⟨m2, h2, e2⟩ := more_go h p m1 1 c (by decide)
  obtain ⟨m3, h3, e3⟩ := more_go h p m2 2 c (by decide)
  refine ⟨m3.fdiv 1009, by rw [Int.fdiv_eq_ediv_of_nonneg _ (by decide)]; omega, ?_⟩
  have o1 : mulOk p 48271 = true := mulOk_r (by decide)
  unfold F__law_more
  rw [m_more_eq]
  simp! [o1, List.length_map, e1, e2, e3, d1009]
theorem ev_take {ds : List Int} (h : Nn ds) {many c : Int} (hm : 0 < many) (hc : 0 ≤ c) : ∃ r, 0 ≤ r ∧ r < many ∧ F__law_take [L ds, .cell, .int many] c = .ok (.int r) (c + 1) := by
  have hz : many ≠ 0 := by omega
  unfold F__law_take m__law_take
  by_cases q : c < (ds.length : Int)
  · obtain ⟨d, hd, e⟩ := L_at (ds := ds) hc q
    refine ⟨d.fmod many, Int.fmod_nonneg_of_pos _ hm, Int.fmod_lt_of_pos _ hm, ?_⟩
    simp! [List.length_map, dt q, e, hz]
  · obtain ⟨r, hr, e⟩ := ev_more h c (c + 1)
    refine ⟨r.fmod many, Int.fmod_nonneg_of_pos _ hm, Int.fmod_lt_of_pos _ hm, ?_⟩
    simp! [List.length_map, df q, e, hz]
theorem ev_one {ds : List Int} (h : Nn ds) (x : DW.D) (xs : List DW.D) {c : Int} (hc : 0 ≤ c) : ∃ d, d ∈ x :: xs ∧ F__law_one [.lst (x :: xs), L ds, .cell] c = .ok d (c + 1) := by
  obtain ⟨r, r0, r1, e⟩ := ev_take h (many := ((xs.length + 1 : Nat) : Int)) (by omega) hc
  obtain ⟨n, rfl⟩ : ∃ n : Nat, r = n := ⟨r.toNat, by omega⟩
  have hn : n < (x :: xs).length := by rw [List.length_cons]; omega
  refine ⟨(x :: xs)[n], List.getElem_mem _, ?_⟩
  have e2 : L2.atI (x :: xs) (n : Int) = some (x :: xs)[n] := by
    rw [atI_lit, if_pos hn, List.getElem?_eq_getElem hn]
  unfold F__law_one m__law_one
  simp! [e, e2]
end LAW

set_option Elab.async false
set_option linter.all false
set_option maxRecDepth 100000
set_option maxHeartbeats 2000000
namespace LAW
open DW PySem
theorem ev_limits (c : Int) : F__law_limits_right [] c = .ok (.bl true) c := by kernel_rfl
def vals : List DW.D := .str "" :: .str "form" :: .int 0 :: .int 17 :: .int (-3) :: .non :: .tup [.str "a", .int 5] :: .str "a line" :: .bl true :: []
noncomputable def b2 : SF := sSeq (sIf (tTru (eBin dNe (eCall F__law_caught (aCons (eVar 4) (aCons (eVar 5) (aCons (eVar 6) (aNil))))) (eLc (iOf itR1 (aCons (eK (.int 7)) (aNil))) (.nm 7) (tYesD) (eBin dEq (eVar 7) (eVar 4)) [7]))) (sRet (eK (.bl false))) (sNil)) (sIf (tTru (eBin dNe (eFn dRepr (aCons (eCall F__law_fields (aCons (eVar 4) (aCons (eVar 5) (aCons (eVar 6) (aNil))))) (aNil))) (eFn dRepr (aCons (eIf (tTru (eBin dEq (eVar 4) (eK (.int 5)))) (eTup (aCons (eVar 5) (aCons (eVar 6) (aNil)))) (eTup (aCons (eVar 5) (aNil)))) (aNil))))) (sRet (eK (.bl false))) (sNil))
theorem b_law_1_eq : b_law_1 = sSeq (sPar [5, 6] [(false, eCall F__law_one (aCons (eVar 3) (aCons (eVar 1) (aCons (eVar 2) (aNil))))), (false, eCall F__law_one (aCons (eVar 3) (aCons (eVar 1) (aCons (eVar 2) (aNil)))))]) b2 := rfl
theorem ev_caught0 (x y : DW.D) (c : Int) : F__law_caught [.int 0, x, y] c = .ok (.lst [.bl true, .bl false, .bl false, .bl false, .bl false, .bl false, .bl false]) c := by kernel_rfl
theorem ev_fields0 (x y : DW.D) (c : Int) : F__law_fields [.int 0, x, y] c = .ok (.tup [x]) c := by kernel_rfl
theorem ev_lc0 (s0 s1 s2 s3 s5 s6 : DW.D) (c : Int) : eLc (iOf itR1 (aCons (eK (.int 7)) (aNil))) (.nm 7) (tYesD) (eBin dEq (eVar 7) (eVar 4)) [7] [.val s0, .val s1, .val s2, .val s3, .val (.int 0), .val s5, .val s6, .no] c = .ok (.lst [.bl true, .bl false, .bl false, .bl false, .bl false, .bl false, .bl false]) c := by kernel_rfl
theorem ne_l0 : dNe (.lst [.bl true, .bl false, .bl false, .bl false, .bl false, .bl false, .bl false]) (.lst [.bl true, .bl false, .bl false, .bl false, .bl false, .bl false, .bl false]) = some (.bl false) := by kernel_rfl
theorem ev_caught1 (x y : DW.D) (c : Int) : F__law_caught [.int 1, x, y] c = .ok (.lst [.bl false, .bl true, .bl false, .bl false, .bl false, .bl false, .bl false]) c := by kernel_rfl
theorem ev_fields1 (x y : DW.D) (c : Int) : F__law_fields [.int 1, x, y] c = .ok (.tup [x]) c := by kernel_rfl
theorem ev_lc1 (s0 s1 s2 s3 s5 s6 : DW.D) (c : Int) : eLc (iOf itR1 (aCons (eK (.int 7)) (aNil))) (.nm 7) (tYesD) (eBin dEq (eVar 7) (eVar 4)) [7] [.val s0, .val s1, .val s2, .val s3, .val (.int 1), .val s5, .val s6, .no] c = .ok (.lst [.bl false, .bl true, .bl false, .bl false, .bl false, .bl false, .bl false]) c := by kernel_rfl
theorem ne_l1 : dNe (.lst [.bl false, .bl true, .bl false, .bl false, .bl false, .bl false, .bl false]) (.lst [.bl false, .bl true, .bl false, .bl false, .bl false, .bl false, .bl false]) = some (.bl false) := by kernel_rfl
theorem ev_caught2 (x y : DW.D) (c : Int) : F__law_caught [.int 2, x, y] c = .ok (.lst [.bl false, .bl false, .bl true, .bl false, .bl false, .bl false, .bl false]) c := by kernel_rfl
theorem ev_fields2 (x y : DW.D) (c : Int) : F__law_fields [.int 2, x, y] c = .ok (.tup [x]) c := by kernel_rfl
theorem ev_lc2 (s0 s1 s2 s3 s5 s6 : DW.D) (c : Int) : eLc (iOf itR1 (aCons (eK (.int 7)) (aNil))) (.nm 7) (tYesD) (eBin dEq (eVar 7) (eVar 4)) [7] [.val s0, .val s1, .val s2, .val s3, .val (.int 2), .val s5, .val s6, .no] c = .ok (.lst [.bl false, .bl false, .bl true, .bl false, .bl false, .bl false, .bl false]) c := by kernel_rfl
theorem ne_l2 : dNe (.lst [.bl false, .bl false, .bl true, .bl false, .bl false, .bl false, .bl false]) (.lst [.bl false, .bl false, .bl true, .bl false, .bl false, .bl false, .bl false]) = some (.bl false) := by kernel_rfl
theorem ev_caught3 (x y : DW.D) (c : Int) : F__law_caught [.int 3, x, y] c = .ok (.lst [.bl false, .bl false, .bl false, .bl true, .bl false, .bl false, .bl false]) c := by kernel_rfl
theorem ev_fields3 (x y : DW.D) (c : Int) : F__law_fields [.int 3, x, y] c = .ok (.tup [x]) c := by kernel_rfl
theorem ev_lc3 (s0 s1 s2 s3 s5 s6 : DW.D) (c : Int) : eLc (iOf itR1 (aCons (eK (.int 7)) (aNil))) (.nm 7) (tYesD) (eBin dEq (eVar 7) (eVar 4)) [7] [.val s0, .val s1, .val s2, .val s3, .val (.int 3), .val s5, .val s6, .no] c = .ok (.lst [.bl false, .bl false, .bl false, .bl true, .bl false, .bl false, .bl false]) c := by kernel_rfl
theorem ne_l3 : dNe (.lst [.bl false, .bl false, .bl false, .bl true, .bl false, .bl false, .bl false]) (.lst [.bl false, .bl false, .bl false, .bl true, .bl false, .bl false, .bl false]) = some (.bl false) := by kernel_rfl
theorem ev_caught4 (x y : DW.D) (c : Int) : F__law_caught [.int 4, x, y] c = .ok (.lst [.bl false, .bl false, .bl false, .bl false, .bl true, .bl false, .bl false]) c := by kernel_rfl
theorem ev_fields4 (x y : DW.D) (c : Int) : F__law_fields [.int 4, x, y] c = .ok (.tup [x]) c := by kernel_rfl
theorem ev_lc4 (s0 s1 s2 s3 s5 s6 : DW.D) (c : Int) : eLc (iOf itR1 (aCons (eK (.int 7)) (aNil))) (.nm 7) (tYesD) (eBin dEq (eVar 7) (eVar 4)) [7] [.val s0, .val s1, .val s2, .val s3, .val (.int 4), .val s5, .val s6, .no] c = .ok (.lst [.bl false, .bl false, .bl false, .bl false, .bl true, .bl false, .bl false]) c := by kernel_rfl
theorem ne_l4 : dNe (.lst [.bl false, .bl false, .bl false, .bl false, .bl true, .bl false, .bl false]) (.lst [.bl false, .bl false, .bl false, .bl false, .bl true, .bl false, .bl false]) = some (.bl false) := by kernel_rfl
theorem ev_caught5 (x y : DW.D) (c : Int) : F__law_caught [.int 5, x, y] c = .ok (.lst [.bl false, .bl false, .bl false, .bl false, .bl false, .bl true, .bl false]) c := by kernel_rfl
theorem ev_fields5 (x y : DW.D) (c : Int) : F__law_fields [.int 5, x, y] c = .ok (.tup [x, y]) c := by kernel_rfl
theorem ev_lc5 (s0 s1 s2 s3 s5 s6 : DW.D) (c : Int) : eLc (iOf itR1 (aCons (eK (.int 7)) (aNil))) (.nm 7) (tYesD) (eBin dEq (eVar 7) (eVar 4)) [7] [.val s0, .val s1, .val s2, .val s3, .val (.int 5), .val s5, .val s6, .no] c = .ok (.lst [.bl false, .bl false, .bl false, .bl false, .bl false, .bl true, .bl false]) c := by kernel_rfl
theorem ne_l5 : dNe (.lst [.bl false, .bl false, .bl false, .bl false, .bl false, .bl true, .bl false]) (.lst [.bl false, .bl false, .bl false, .bl false, .bl false, .bl true, .bl false]) = some (.bl false) := by kernel_rfl
theorem ev_caught6 (x y : DW.D) (c : Int) : F__law_caught [.int 6, x, y] c = .ok (.lst [.bl false, .bl false, .bl false, .bl false, .bl false, .bl false, .bl true]) c := by kernel_rfl
theorem ev_fields6 (x y : DW.D) (c : Int) : F__law_fields [.int 6, x, y] c = .ok (.tup [x]) c := by kernel_rfl
theorem ev_lc6 (s0 s1 s2 s3 s5 s6 : DW.D) (c : Int) : eLc (iOf itR1 (aCons (eK (.int 7)) (aNil))) (.nm 7) (tYesD) (eBin dEq (eVar 7) (eVar 4)) [7] [.val s0, .val s1, .val s2, .val s3, .val (.int 6), .val s5, .val s6, .no] c = .ok (.lst [.bl false, .bl false, .bl false, .bl false, .bl false, .bl false, .bl true]) c := by kernel_rfl
theorem ne_l6 : dNe (.lst [.bl false, .bl false, .bl false, .bl false, .bl false, .bl false, .bl true]) (.lst [.bl false, .bl false, .bl false, .bl false, .bl false, .bl false, .bl true]) = some (.bl false) := by kernel_rfl
end LAW

set_option Elab.async false
set_option linter.all false
set_option maxRecDepth 100000
set_option maxHeartbeats 2000000
namespace LAW
open DW PySem
local macro_rules | `(tactic| simp! [$ts,*]) => `(tactic| simp -implicitDefEqProofs only [runF_eq, sSeq_eq, and_nx, and_ret, and_exc, and_brk, and_cnt, and_bad, and_ite, bind_ok, bind_exc, bind_bad, bind_ite, toS_ok, toS_exc, toS_bad, toS_ite, of_some, of_none, of_ite, gV_val, eVar_eq, gO_own, eBor_eq, gA_own, gA_val, eAny_eq, runR_ret, runR_nx, runR_exc, runR_ite, bindO_some, bindOR_some, sAsg_eq, loopR_nx, loopR_cnt, loopR_brk, loopR_ret, loopR_exc, loopR_ite, forL_nil, forL_cons, lcL_nil, lcL_cons, noX_ok, bindP_nm, bindP_tp, bindPs_nil, bindPs_cons, dIx_tup, dIx_lst, atI_0, atI_1, atI_2, atI_3, dSub_int, dAdd_int, dMul_int, dMulI_int, dAddI_int, dSubI_int, dNeg_int, dMod_int, dFdiv_int, dLt_int, dLe_int, dGt_int, dGe_int, dTru_int, dTru_bl, dTru_lst, dTru_tup, dTru_non, divOk2, itSeq_lst, itSeq_tup, ownFree_nil, ownFree_cons, dTuple_lst, dTuple_tup, dList_lst, dList_tup, dLen_lst, dLen_tup, opt_bind_some, sSet, sRet, sRetN, sNil, sDrop, sIf, sBrk, sCnt, sFor, sOwn, eBin, eUn, eK, eIf, eAnd, eOr, eNot, tTru, tAnd, tOr, tNot, aNil, aCons, eTup, eLst, eFn, eLc, iOf, iOf1, tYesD, wipeE, eCall, List.map_cons, List.map_nil, List.replicate_succ, List.replicate_zero, List.cons_append, List.nil_append, List.set_cons_zero, List.set_cons_succ, List.getElem?_cons_zero, List.getElem?_cons_succ, List.length_cons, List.length_nil, Nat.zero_add, Nat.reduceAdd, Nat.reduceSub, Nat.reduceLT, Nat.reduceLeDiff, if_true, ite_true, reduceIte, if_false, Bool.true_and, Bool.and_true, notOwn_no, notOwn_val, sizeLine_eq, Bool.not_true, Bool.not_false, List.isEmpty_cons, List.isEmpty_nil, dAny_lst, dAll_lst, flatT_int, flatT_bl, sPar_eq, eCs_nil, eCs_val, eCs_own, setAll_nil, setAll_cons, all_nil, all_cons, dMax2_int, dMin2_int, dAbs_int, dInt_int, itZip_lst, itZip_tup, zipD_cons, zipD_nil, itEnum_lst, itEnum_tup, enumD4, sAug_eq, augS_val, ownL_own, intS_int, optS_some, sApp_eq, sAugIx_eq, sPut_eq, putR_int, sFz_eq, fzS_own, fzS_val, List.all_cons, List.all_nil, List.any_cons, List.any_nil, Option.isSome_some, Option.getD_some, and_true, true_and, and_self, Bool.or_false, Bool.false_eq_true, dEq_int, dNe_int, dEq_nil, dNe_nil, fits_nil, fits_int, mulOk_r2, ne_eq, Int.reduceEq, not_false_eq_true, not_true_eq_false, Int.reduceBNe, Int.reduceBEq, Bool.not_true, Bool.not_false, decide_true, decide_false, Bool.false_or, Bool.or_true, Bool.true_or, Bool.and_false, Bool.false_and, itR1_3, itR1_4, itR1_7, itR1_8, Int.reduceAdd, Int.reduceSub, Int.reduceMul, Int.reduceLT, Int.reduceLE, Int.reduceNeg, fmod4_0, fmod4_1, fmod4_2, fmod4_3, fmod4_4, fmod4_5, fmod4_6, ixN4_0, ixN4_1, ixN4_2, ixN4_3, chain_true, chain_false, decide_eq_true_eq, atI_4, atI_5, atI_6, eChain_eq, chainR_bl, dSub_bl, dIsi_int, dIsi_tup, dIsi_intb, dIsi_intt, dIsi_tupt, dIsi_non, fmod4_7, dAdd_lst, gC_cell, eCell_eq, pC_cell, sCell_eq, eCallV_eq, sTry_eq, tryR_ret, tryR_nx, $ts,*])
theorem rp {d : DW.D} (h : (d.fit 12 && showOk d) = true) : ∃ t, dRepr [d] = some t ∧ dNe t t = some (.bl false) := by
  refine ⟨.str d.toP.shown, ?_, ?_⟩
  · show (if (d.fit 12 && showOk d) = true then some (DW.D.str d.toP.shown) else none) = _
    rw [h]; rfl
  · show some (DW.D.bl (!(d.toP.shown == d.toP.shown))) = _
    rw [beq_self_eq_true]; rfl
theorem rp1 (x : DW.D) (h : x ∈ DW.D.str "word" :: vals) : ((DW.D.tup [x]).fit 12 && showOk (.tup [x])) = true := by
  unfold vals at h
  simp only [List.mem_cons, List.not_mem_nil, or_false] at h
  rcases h with rfl | rfl | rfl | rfl | rfl | rfl | rfl | rfl | rfl | rfl <;> kernel_rfl
theorem rp2 (x y : DW.D) (h : x ∈ DW.D.str "word" :: vals) (h2 : y ∈ DW.D.str "word" :: vals) : ((DW.D.tup [x, y]).fit 12 && showOk (.tup [x, y])) = true := by
  unfold vals at h h2
  simp only [List.mem_cons, List.not_mem_nil, or_false] at h h2
  rcases h with rfl | rfl | rfl | rfl | rfl | rfl | rfl | rfl | rfl | rfl <;> rcases h2 with rfl | rfl | rfl | rfl | rfl | rfl | rfl | rfl | rfl | rfl <;> kernel_rfl
theorem ev_b0 {ds : List Int} (hn : Nn ds) {c : Int} (hc : 0 ≤ c) (s0 : DW.D) (s5 s6 : DW.S) : ∃ x y, b_law_1 [.val s0, .val (L ds), .val .cell, .val (.lst (.str "word" :: vals)), .val (.int 0), s5, s6, .no] c = .nx [.val s0, .val (L ds), .val .cell, .val (.lst (.str "word" :: vals)), .val (.int 0), .val x, .val y, .no] (c + 1 + 1) := by
  obtain ⟨x, hx, e1⟩ := ev_one hn (.str "word") vals hc
  obtain ⟨y, hy, e2⟩ := ev_one hn (.str "word") vals (c := c + 1) (by omega)
  obtain ⟨t, t1, t2⟩ := rp (rp1 x hx)
  refine ⟨x, y, ?_⟩
  rw [b_law_1_eq]
  unfold b2
  simp! [e1, e2, ev_caught0, ev_lc0, ne_l0, ev_fields0, t1, t2]
theorem ev_b1 {ds : List Int} (hn : Nn ds) {c : Int} (hc : 0 ≤ c) (s0 : DW.D) (s5 s6 : DW.S) : ∃ x y, b_law_1 [.val s0, .val (L ds), .val .cell, .val (.lst (.str "word" :: vals)), .val (.int 1), s5, s6, .no] c = .nx [.val s0, .val (L ds), .val .cell, .val (.lst (.str "word" :: vals)), .val (.int 1), .val x, .val y, .no] (c + 1 + 1) := by
  obtain ⟨x, hx, e1⟩ := ev_one hn (.str "word") vals hc
  obtain ⟨y, hy, e2⟩ := ev_one hn (.str "word") vals (c := c + 1) (by omega)
  obtain ⟨t, t1, t2⟩ := rp (rp1 x hx)
  refine ⟨x, y, ?_⟩
  rw [b_law_1_eq]
  unfold b2
  simp! [e1, e2, ev_caught1, ev_lc1, ne_l1, ev_fields1, t1, t2]
theorem ev_b2 {ds : List Int} (hn : Nn ds) {c : Int} (hc : 0 ≤ c) (s0 : DW.D) (s5 s6 : DW.S) : ∃ x y, b_law_1 [.val s0, .val (L ds), .val .cell, .val (.lst (.str "word" :: vals)), .val (.int 2), s5, s6, .no] c = .nx [.val s0, .val (L ds), .val .cell, .val (.lst (.str "word" :: vals)), .val (.int 2), .val x, .val y, .no] (c + 1 + 1) := by
  obtain ⟨x, hx, e1⟩ := ev_one hn (.str "word") vals hc
  obtain ⟨y, hy, e2⟩ := ev_one hn (.str "word") vals (c := c + 1) (by omega)
  obtain ⟨t, t1, t2⟩ := rp (rp1 x hx)
  refine ⟨x, y, ?_⟩
  rw [b_law_1_eq]
  unfold b2
  simp! [e1, e2, ev_caught2, ev_lc2, ne_l2, ev_fields2, t1, t2]
theorem ev_b3 {ds : List Int} (hn : Nn ds) {c : Int} (hc : 0 ≤ c) (s0 : DW.D) (s5 s6 : DW.S) : ∃ x y, b_law_1 [.val s0, .val (L ds), .val .cell, .val (.lst (.str "word" :: vals)), .val (.int 3), s5, s6, .no] c = .nx [.val s0, .val (L ds), .val .cell, .val (.lst (.str "word" :: vals)), .val (.int 3), .val x, .val y, .no] (c + 1 + 1) := by
  obtain ⟨x, hx, e1⟩ := ev_one hn (.str "word") vals hc
  obtain ⟨y, hy, e2⟩ := ev_one hn (.str "word") vals (c := c + 1) (by omega)
  obtain ⟨t, t1, t2⟩ := rp (rp1 x hx)
  refine ⟨x, y, ?_⟩
  rw [b_law_1_eq]
  unfold b2
  simp! [e1, e2, ev_caught3, ev_lc3, ne_l3, ev_fields3, t1, t2]
theorem ev_b4 {ds : List Int} (hn : Nn ds) {c : Int} (hc : 0 ≤ c) (s0 : DW.D) (s5 s6 : DW.S) : ∃ x y, b_law_1 [.val s0, .val (L ds), .val .cell, .val (.lst (.str "word" :: vals)), .val (.int 4), s5, s6, .no] c = .nx [.val s0, .val (L ds), .val .cell, .val (.lst (.str "word" :: vals)), .val (.int 4), .val x, .val y, .no] (c + 1 + 1) := by
  obtain ⟨x, hx, e1⟩ := ev_one hn (.str "word") vals hc
  obtain ⟨y, hy, e2⟩ := ev_one hn (.str "word") vals (c := c + 1) (by omega)
  obtain ⟨t, t1, t2⟩ := rp (rp1 x hx)
  refine ⟨x, y, ?_⟩
  rw [b_law_1_eq]
  unfold b2
  simp! [e1, e2, ev_caught4, ev_lc4, ne_l4, ev_fields4, t1, t2]
theorem ev_b5 {ds : List Int} (hn : Nn ds) {c : Int} (hc : 0 ≤ c) (s0 : DW.D) (s5 s6 : DW.S) : ∃ x y, b_law_1 [.val s0, .val (L ds), .val .cell, .val (.lst (.str "word" :: vals)), .val (.int 5), s5, s6, .no] c = .nx [.val s0, .val (L ds), .val .cell, .val (.lst (.str "word" :: vals)), .val (.int 5), .val x, .val y, .no] (c + 1 + 1) := by
  obtain ⟨x, hx, e1⟩ := ev_one hn (.str "word") vals hc
  obtain ⟨y, hy, e2⟩ := ev_one hn (.str "word") vals (c := c + 1) (by omega)
  obtain ⟨t, t1, t2⟩ := rp (rp2 x y hx hy)
  refine ⟨x, y, ?_⟩
  rw [b_law_1_eq]
  unfold b2
  simp! [e1, e2, ev_caught5, ev_lc5, ne_l5, ev_fields5, t1, t2]
theorem ev_b6 {ds : List Int} (hn : Nn ds) {c : Int} (hc : 0 ≤ c) (s0 : DW.D) (s5 s6 : DW.S) : ∃ x y, b_law_1 [.val s0, .val (L ds), .val .cell, .val (.lst (.str "word" :: vals)), .val (.int 6), s5, s6, .no] c = .nx [.val s0, .val (L ds), .val .cell, .val (.lst (.str "word" :: vals)), .val (.int 6), .val x, .val y, .no] (c + 1 + 1) := by
  obtain ⟨x, hx, e1⟩ := ev_one hn (.str "word") vals hc
  obtain ⟨y, hy, e2⟩ := ev_one hn (.str "word") vals (c := c + 1) (by omega)
  obtain ⟨t, t1, t2⟩ := rp (rp1 x hx)
  refine ⟨x, y, ?_⟩
  rw [b_law_1_eq]
  unfold b2
  simp! [e1, e2, ev_caught6, ev_lc6, ne_l6, ev_fields6, t1, t2]
end LAW

set_option Elab.async false
set_option linter.all false
set_option maxRecDepth 100000
set_option maxHeartbeats 2000000
namespace LAW
open DW PySem
local macro_rules | `(tactic| simp! [$ts,*]) => `(tactic| simp -implicitDefEqProofs only [runF_eq, sSeq_eq, and_nx, and_ret, and_exc, and_brk, and_cnt, and_bad, and_ite, bind_ok, bind_exc, bind_bad, bind_ite, toS_ok, toS_exc, toS_bad, toS_ite, of_some, of_none, of_ite, gV_val, eVar_eq, gO_own, eBor_eq, gA_own, gA_val, eAny_eq, runR_ret, runR_nx, runR_exc, runR_ite, bindO_some, bindOR_some, sAsg_eq, loopR_nx, loopR_cnt, loopR_brk, loopR_ret, loopR_exc, loopR_ite, forL_nil, forL_cons, lcL_nil, lcL_cons, noX_ok, bindP_nm, bindP_tp, bindPs_nil, bindPs_cons, dIx_tup, dIx_lst, atI_0, atI_1, atI_2, atI_3, dSub_int, dAdd_int, dMul_int, dMulI_int, dAddI_int, dSubI_int, dNeg_int, dMod_int, dFdiv_int, dLt_int, dLe_int, dGt_int, dGe_int, dTru_int, dTru_bl, dTru_lst, dTru_tup, dTru_non, divOk2, itSeq_lst, itSeq_tup, ownFree_nil, ownFree_cons, dTuple_lst, dTuple_tup, dList_lst, dList_tup, dLen_lst, dLen_tup, opt_bind_some, sSet, sRet, sRetN, sNil, sDrop, sIf, sBrk, sCnt, sFor, sOwn, eBin, eUn, eK, eIf, eAnd, eOr, eNot, tTru, tAnd, tOr, tNot, aNil, aCons, eTup, eLst, eFn, eLc, iOf, iOf1, tYesD, wipeE, eCall, List.map_cons, List.map_nil, List.replicate_succ, List.replicate_zero, List.cons_append, List.nil_append, List.set_cons_zero, List.set_cons_succ, List.getElem?_cons_zero, List.getElem?_cons_succ, List.length_cons, List.length_nil, Nat.zero_add, Nat.reduceAdd, Nat.reduceSub, Nat.reduceLT, Nat.reduceLeDiff, if_true, ite_true, reduceIte, if_false, Bool.true_and, Bool.and_true, notOwn_no, notOwn_val, sizeLine_eq, Bool.not_true, Bool.not_false, List.isEmpty_cons, List.isEmpty_nil, dAny_lst, dAll_lst, flatT_int, flatT_bl, sPar_eq, eCs_nil, eCs_val, eCs_own, setAll_nil, setAll_cons, all_nil, all_cons, dMax2_int, dMin2_int, dAbs_int, dInt_int, itZip_lst, itZip_tup, zipD_cons, zipD_nil, itEnum_lst, itEnum_tup, enumD4, sAug_eq, augS_val, ownL_own, intS_int, optS_some, sApp_eq, sAugIx_eq, sPut_eq, putR_int, sFz_eq, fzS_own, fzS_val, List.all_cons, List.all_nil, List.any_cons, List.any_nil, Option.isSome_some, Option.getD_some, and_true, true_and, and_self, Bool.or_false, Bool.false_eq_true, dEq_int, dNe_int, dEq_nil, dNe_nil, fits_nil, fits_int, mulOk_r2, ne_eq, Int.reduceEq, not_false_eq_true, not_true_eq_false, Int.reduceBNe, Int.reduceBEq, Bool.not_true, Bool.not_false, decide_true, decide_false, Bool.false_or, Bool.or_true, Bool.true_or, Bool.and_false, Bool.false_and, itR1_3, itR1_4, itR1_7, itR1_8, Int.reduceAdd, Int.reduceSub, Int.reduceMul, Int.reduceLT, Int.reduceLE, Int.reduceNeg, fmod4_0, fmod4_1, fmod4_2, fmod4_3, fmod4_4, fmod4_5, fmod4_6, ixN4_0, ixN4_1, ixN4_2, ixN4_3, chain_true, chain_false, decide_eq_true_eq, atI_4, atI_5, atI_6, eChain_eq, chainR_bl, dSub_bl, dIsi_int, dIsi_tup, dIsi_intb, dIsi_intt, dIsi_tupt, dIsi_non, fmod4_7, dAdd_lst, gC_cell, eCell_eq, pC_cell, sCell_eq, eCallV_eq, sTry_eq, tryR_ret, tryR_nx, $ts,*])
theorem sNewCell_ret {i : Nat} {n : Int} {f : SF} {ev : DW.Env} {c0 : Int} {d : DW.D} {c : Int} (h : f (ev.set i (.val .cell)) n = .ret d c) (hi : i < ev.length) : sNewCell i n f ev c0 = .ret d c := by
  unfold sNewCell
  rw [if_pos hi, h]
noncomputable def UB : SF := sSeq (sIf (tNot (tTru (eCall F__law_limits_right aNil))) (sRet (eK (.bl false))) (sNil)) (sSeq (sSet 3 (eLst (aCons (eK (.str "word")) (aCons (eK (.str "")) (aCons (eK (.str "form")) (aCons (eK (.int 0)) (aCons (eK (.int 17)) (aCons (eUn dNeg (eK (.int 3))) (aCons (eK .non) (aCons (eTup (aCons (eK (.str "a")) (aCons (eK (.int 5)) (aNil)))) (aCons (eK (.str "a line")) (aCons (eK (.bl true)) (aNil))))))))))))) (sSeq (sFor (iOf itR1 (aCons (eK (.int 7)) (aNil))) (.nm 4) (b_law_1)) (sRet (eK (.bl true)))))
theorem m_law_eq : m_law = sSeq (sSet 1 (eCall F__law_draws (aCons (eVar 0) (aNil)))) (sNewCell 2 0 UB) := rfl
theorem ub_go {ds : List Int} (s0 : DW.D) (hn : Nn ds) : ∃ c', UB [.val s0, .val (L ds), .val .cell, .no, .no, .no, .no, .no] 0 = .ret (.bl true) c' := by
  obtain ⟨x0, y0, h0⟩ := ev_b0 hn (c := (0 : Int)) (by omega) s0 (.no) (.no)
  obtain ⟨x1, y1, h1⟩ := ev_b1 hn (c := (2 : Int)) (by omega) s0 (.val x0) (.val y0)
  obtain ⟨x2, y2, h2⟩ := ev_b2 hn (c := (4 : Int)) (by omega) s0 (.val x1) (.val y1)
  obtain ⟨x3, y3, h3⟩ := ev_b3 hn (c := (6 : Int)) (by omega) s0 (.val x2) (.val y2)
  obtain ⟨x4, y4, h4⟩ := ev_b4 hn (c := (8 : Int)) (by omega) s0 (.val x3) (.val y3)
  obtain ⟨x5, y5, h5⟩ := ev_b5 hn (c := (10 : Int)) (by omega) s0 (.val x4) (.val y4)
  obtain ⟨x6, y6, h6⟩ := ev_b6 hn (c := (12 : Int)) (by omega) s0 (.val x5) (.val y5)
  unfold vals at h0 h1 h2 h3 h4 h5 h6
  refine ⟨14, ?_⟩
  unfold UB
  simp! [ev_limits, h0, h1, h2, h3, h4, h5, h6]
theorem all_go (ns : List Int) (h : ns.length ≤ 63) : ∃ c, m_law (.val (.scr ns) :: List.replicate (N_law.length - 1) .no) 0 = .ret (.bl true) c := by
  obtain ⟨ds, hn, _, e0⟩ := ev_draws ns 0 h
  obtain ⟨c, e⟩ := ub_go (.scr ns) hn
  refine ⟨c, ?_⟩
  have lit : (.val (.scr ns) :: List.replicate (N_law.length - 1) .no : DW.Env) = [.val (.scr ns), .no, .no, .no, .no, .no, .no, .no] := rfl
  rw [m_law_eq, lit]
  simp! [e0]
  exact sNewCell_ret e (Nat.le_of_ble_eq_true rfl)
end LAW

set_option maxRecDepth 100000 in
set_option maxHeartbeats 8000000 in
theorem PySem.Challenge.cw_bothatonce_k00_errors_and_limits_holds : PySem.Challenge.rw_bothatonce_k00_errors_and_limits.Holds := by
  exact (LAW.holds LAW.all_go)
