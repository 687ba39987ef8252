import PyProof.Rows.All
import Wide.All
import OpenK.AllK
import Wide.FinOn
import HandS.ForMost
import HandS.Deep
import HandS.DictComp
import HandS.Wide
import HandS.Conv
import HandS.Style
import HandS.Flow
import KE.SortData
import KE.DatumOrd
import KE.DataEq
import KE.DataCmp
import KE.DataFind
import KE.DataMinMax
import KE.DatumIndex
import HandS.WordsDict
import HandS.TupLen
import HandS.Walk
import HandS.Codes
import HandS.IsInst
import HandS.More
import HandS.EndBits
import HandS.SetKeys
import HandS.Strs
import HandS.DeepEq
import HandS.SetFor
import KE.DatumMoreOrd
import PySem.Challenge.RW_leadlight_k68_perfect_partings_and_recta
set_option Elab.async false
set_option linter.all false
set_option maxRecDepth 100000
set_option maxHeartbeats 1000000
/-! Ev1: data without addresses (PyData) over the layer's abstract heap: what a value stands for, slots, the state, evaluators. -/
namespace Ev
open PySem PySem.Spec PyProof.Rows L2

abbrev D := PyData
/-- a key as a datum -/
def kD : Key → D
  | .inl i => .int i
  | .inr x => .str x

/-- a list of the module -/
def KL (K : PySem.W.Frag) (a : Addr) (xs : List V) : Prop := ∃ (its : List Value) (n : Nat), K.lookup a = some { cls := .type "list", data := .seq its.toArray n } ∧ Vals xs its ∧ its.length ≤ sizeLine
def LR (K : PySem.W.Frag) (F : Hp) (a : Addr) (xs : List V) : Prop := Rd F a (.lst xs) ∨ KL K a xs
theorem LR.sq {K : PySem.W.Frag} {F : Hp} {a : Addr} {xs : List V} (h : LR K F a xs) : SqL K F a xs := by
  rcases h with h | ⟨its, n, h1, h2, h3⟩
  · exact .inl h
  · exact .inr ⟨_, _, n, h1, rfl, rfl, rfl, by rw [List.size_toArray]; exact h3, h2⟩
/-- a tuple of the module -/
def CT (K : PySem.W.Frag) (a : Addr) (xs : List V) : Prop := ∃ (o : Obj) (its : Array Value) (n : Nat), K.lookup a = some o ∧ o.cls = .type "tuple" ∧ o.data = .seq its n ∧ its.size ≤ sizeLine ∧ Vals xs its.toList
/-- which tuples of the module may lie in data (they can't be a dict's keys then): told law by law -/
def kcOk (ds : List D) : Bool := ds.length == 4
mutual
def kcD : D → Bool
  | .tuple ds => kcOk ds && kcA ds
  | _ => true
def kcA : List D → Bool
  | [] => true
  | d :: ds => kcD d && kcA ds
end
def ST (K : PySem.W.Frag) (F : Hp) (a : Addr) (xs : List V) (ds : List D) : Prop := F a = some (.tup xs) ∨ (CT K a xs ∧ kcOk ds = true)
mutual
/-- the value v stands for d, by what is frozen (F) -/
inductive Rp (K : PySem.W.Frag) (F : Hp) : V → D → Prop
  | non : Rp K F .non .none
  | bl (b : Bool) : Rp K F (.bl b) (.bool b)
  | int (i : Int) : Rp K F (.int i) (.int i)
  | str (x : Str) : Rp K F (.str x) (.str x)
  | lst {a : Addr} {xs : List V} {ds : List D} : LR K F a xs → RpA K F xs ds → Rp K F (.ref a) (.list ds)
  | tup {a : Addr} {xs : List V} {ds : List D} : ST K F a xs ds → RpA K F xs ds → Rp K F (.ref a) (.tuple ds)
  | dK {a : Addr} {kvs : List (Key × V)} {ds : List (D × D)} : Rd F a (.dK kvs) → RpK K F kvs ds → Rp K F (.ref a) (.dict ds)
  | dT {a : Addr} {kvs : List (List Key × V)} {ds : List (D × D)} : kvs ≠ [] → Rd F a (.dT kvs) → RpT K F kvs ds → Rp K F (.ref a) (.dict ds)
inductive RpA (K : PySem.W.Frag) (F : Hp) : List V → List D → Prop
  | nil : RpA K F [] []
  | cons {v : V} {vs : List V} {d : D} {ds : List D} : Rp K F v d → RpA K F vs ds → RpA K F (v :: vs) (d :: ds)
inductive RpK (K : PySem.W.Frag) (F : Hp) : List (Key × V) → List (D × D) → Prop
  | nil : RpK K F [] []
  | cons {k : Key} {v : V} {r : List (Key × V)} {d : D} {ds : List (D × D)} : Rp K F v d → RpK K F r ds → RpK K F ((k, v) :: r) ((kD k, d) :: ds)
inductive RpT (K : PySem.W.Frag) (F : Hp) : List (List Key × V) → List (D × D) → Prop
  | nil : RpT K F [] []
  | cons {k : List Key} {v : V} {r : List (List Key × V)} {d : D} {ds : List (D × D)} : Rp K F v d → RpT K F r ds → RpT K F ((k, v) :: r) ((.tuple (k.map kD), d) :: ds)
end

mutual
/-- a constant of the module: a text, a number, a tuple of such -/
inductive Cst (K : PySem.W.Frag) : V → D → Prop
  | non : Cst K .non .none
  | bl (b : Bool) : Cst K (.bl b) (.bool b)
  | int (i : Int) : Cst K (.int i) (.int i)
  | str (x : Str) : Cst K (.str x) (.str x)
  | tup {a : Addr} {o : Obj} {its : Array Value} {n : Nat} {xs : List V} {ds : List D} : K.lookup a = some o → o.cls = .type "tuple" → o.data = .seq its n → its.size ≤ sizeLine → Vals xs its.toList → CstA K xs ds → Cst K (.ref a) (.tuple ds)
inductive CstA (K : PySem.W.Frag) : List V → List D → Prop
  | nil : CstA K [] []
  | cons {v : V} {vs : List V} {d : D} {ds : List D} : Cst K v d → CstA K vs ds → CstA K (v :: vs) (d :: ds)
end

/-- what is frozen lies in the heap (what may change may be locked there) -/
def Sub (F H : Hp) : Prop := ∀ a o, F a = some o → H a = some o ∨ (Mut (some o) ∧ ∃ ob, H a = some (.frz ob o))
theorem Sub.of {F H : Hp} (h : Same F H) : Sub F H := fun a o e => .inl (h a o e)
theorem Sub.rd {F H : Hp} (h : Sub F H) {a : Addr} {u : HO} (r : Rd F a u) : Rd H a u := by
  rcases r with r | ⟨o, r⟩
  · rcases h a u r with q | ⟨_, ob, q⟩
    · exact .inl q
    · exact .inr ⟨ob, q⟩
  · rcases h a _ r with q | ⟨m, _⟩
    · exact .inr ⟨o, q⟩
    · exact m.elim
theorem Sub.tup {F H : Hp} (h : Sub F H) {a : Addr} {xs : List V} (r : F a = some (.tup xs)) : H a = some (.tup xs) := by
  rcases h a _ r with q | ⟨m, _⟩
  · exact q
  · exact m.elim
theorem Sub.l {K : PySem.W.Frag} {F H : Hp} (h : Sub F H) {a : Addr} {xs : List V} (r : SqL K F a xs) : SqL K H a xs := r.elim (fun q => .inl (h.rd q)) .inr
theorem Sub.t {K : PySem.W.Frag} {F H : Hp} (h : Sub F H) {a : Addr} {xs : List V} (r : SqT K F a xs) : SqT K H a xs := r.elim (fun q => .inl (h.rd q)) .inr
theorem Sub.st {K : PySem.W.Frag} {F H : Hp} (h : Sub F H) {a : Addr} {xs : List V} {ds : List D} (r : ST K F a xs ds) : ST K H a xs ds := r.elim (fun q => .inl (h.tup q)) .inr
theorem ST.sq {K : PySem.W.Frag} {F : Hp} {a : Addr} {xs : List V} {ds : List D} (r : ST K F a xs ds) : SqT K F a xs := r.elim (fun q => .inl (.inl q)) fun q => .inr q.1
theorem Sub.sq {K : PySem.W.Frag} {F H : Hp} (h : Sub F H) {a : Addr} {xs : List V} {ds : List D} (r : ST K F a xs ds) : SqT K H a xs := (h.st r).sq
theorem Sub.lr {K : PySem.W.Frag} {F H : Hp} (h : Sub F H) {a : Addr} {xs : List V} (r : LR K F a xs) : LR K H a xs := r.elim (fun q => .inl (h.rd q)) .inr
theorem Sub.trans {F F' H : Hp} (h1 : Same F F') (h2 : Sub F' H) : Sub F H := fun a o e => h2 a o (h1 a o e)
theorem Sub.none {F H : Hp} (h : Sub F H) {a : Addr} (e : H a = none) : F a = none := by
  cases q : F a with
  | none => rfl
  | some o =>
    rcases h a o q with z | ⟨_, _, z⟩ <;> (rw [e] at z; cases z)

section
variable {K : PySem.W.Frag} {F H : Hp}
mutual
theorem Rp.sub (s : Sub F H) : ∀ {v : V} {d : D}, Rp K F v d → Rp K H v d
  | _, _, .non => .non
  | _, _, .bl b => .bl b
  | _, _, .int i => .int i
  | _, _, .str x => .str x
  | _, _, .lst h a => .lst (s.lr h) (RpA.sub s a)
  | _, _, .tup h a => .tup (s.st h) (RpA.sub s a)
  | _, _, .dK h a => .dK (s.rd h) (RpK.sub s a)
  | _, _, .dT n h a => .dT n (s.rd h) (RpT.sub s a)
theorem RpA.sub (s : Sub F H) : ∀ {v : List V} {d : List D}, RpA K F v d → RpA K H v d
  | _, _, .nil => .nil
  | _, _, .cons h a => .cons (Rp.sub s h) (RpA.sub s a)
theorem RpK.sub (s : Sub F H) : ∀ {v : List (Key × V)} {d : List (D × D)}, RpK K F v d → RpK K H v d
  | _, _, .nil => .nil
  | _, _, .cons h a => .cons (Rp.sub s h) (RpK.sub s a)
theorem RpT.sub (s : Sub F H) : ∀ {v : List (List Key × V)} {d : List (D × D)}, RpT K F v d → RpT K H v d
  | _, _, .nil => .nil
  | _, _, .cons h a => .cons (Rp.sub s h) (RpT.sub s a)
end
theorem Rp.mono (s : Same F H) {v : V} {d : D} (h : Rp K F v d) : Rp K H v d := h.sub (.of s)
theorem RpA.mono (s : Same F H) {v : List V} {d : List D} (h : RpA K F v d) : RpA K H v d := h.sub (.of s)
theorem RpK.mono (s : Same F H) {v : List (Key × V)} {d : List (D × D)} (h : RpK K F v d) : RpK K H v d := h.sub (.of s)
theorem RpT.mono (s : Same F H) {v : List (List Key × V)} {d : List (D × D)} (h : RpT K F v d) : RpT K H v d := h.sub (.of s)

mutual
theorem Cst.rp : ∀ {v : V} {d : D}, kcD d = true → Cst K v d → Rp K F v d
  | _, _, _, .non => .non
  | _, _, _, .bl b => .bl b
  | _, _, _, .int i => .int i
  | _, _, _, .str x => .str x
  | _, _, k, .tup h1 h2 h3 h4 h5 h6 => by
    simp only [kcD, Bool.and_eq_true] at k
    exact .tup (.inr ⟨⟨_, _, _, h1, h2, h3, h4, h5⟩, k.1⟩) (CstA.rp k.2 h6)
theorem CstA.rp : ∀ {v : List V} {d : List D}, kcA d = true → CstA K v d → RpA K F v d
  | _, _, _, .nil => .nil
  | _, _, k, .cons h a => by
    simp only [kcA, Bool.and_eq_true] at k
    exact .cons (Cst.rp k.1 h) (CstA.rp k.2 a)
end
theorem RpA.length : ∀ {vs : List V} {ds : List D}, RpA K F vs ds → vs.length = ds.length
  | _, _, .nil => rfl
  | _, _, .cons _ h => by simp [RpA.length h]
theorem RpA.at : ∀ {vs : List V} {ds : List D} {i : Nat} {v : V}, RpA K F vs ds → vs[i]? = some v → ∃ d, ds[i]? = some d ∧ Rp K F v d
  | _, _, _, _, .nil, h => by simp at h
  | _, _, 0, _, .cons r _, h => by simp at h; subst h; exact ⟨_, rfl, r⟩
  | _, _, i + 1, v, .cons _ t, h => by
    obtain ⟨d, h1, h2⟩ := RpA.at (i := i) (v := v) t (by simpa using h)
    exact ⟨d, by simpa using h1, h2⟩
theorem RpA.at' : ∀ {vs : List V} {ds : List D} {i : Nat} {d : D}, RpA K F vs ds → ds[i]? = some d → ∃ v, vs[i]? = some v ∧ Rp K F v d
  | _, _, _, _, .nil, h => by simp at h
  | _, _, 0, _, .cons r _, h => by simp at h; subst h; exact ⟨_, rfl, r⟩
  | _, _, i + 1, d, .cons _ t, h => by
    obtain ⟨v, h1, h2⟩ := RpA.at' (i := i) (d := d) t (by simpa using h)
    exact ⟨v, by simpa using h1, h2⟩
theorem RpA.append : ∀ {vs ws : List V} {ds es : List D}, RpA K F vs ds → RpA K F ws es → RpA K F (vs ++ ws) (ds ++ es)
  | _, _, _, _, .nil, h => h
  | _, _, _, _, .cons r t, h => .cons r (t.append h)
theorem RpA.take : ∀ {vs : List V} {ds : List D} (n : Nat), RpA K F vs ds → RpA K F (vs.take n) (ds.take n)
  | _, _, 0, _ => by simp; exact .nil
  | _, _, n + 1, .nil => .nil
  | _, _, n + 1, .cons r t => .cons r (t.take n)
theorem RpA.drop : ∀ {vs : List V} {ds : List D} (n : Nat), RpA K F vs ds → RpA K F (vs.drop n) (ds.drop n)
  | _, _, 0, h => h
  | _, _, n + 1, .nil => .nil
  | _, _, n + 1, .cons r t => RpA.drop n t
theorem RpA.set : ∀ {vs : List V} {ds : List D} {v : V} {d : D} (i : Nat), RpA K F vs ds → Rp K F v d → RpA K F (vs.set i v) (ds.set i d)
  | _, _, _, _, _, .nil, _ => .nil
  | _, _, _, _, 0, .cons _ t, h => .cons h t
  | _, _, _, _, i + 1, .cons r t, h => .cons r (RpA.set i t h)
theorem RpA.eraseIdx : ∀ {vs : List V} {ds : List D} (i : Nat), RpA K F vs ds → RpA K F (vs.eraseIdx i) (ds.eraseIdx i)
  | _, _, _, .nil => .nil
  | _, _, 0, .cons _ t => t
  | _, _, i + 1, .cons r t => .cons r (RpA.eraseIdx i t)
theorem RpA.reverse {vs : List V} {ds : List D} (h : RpA K F vs ds) : RpA K F vs.reverse ds.reverse := by
  induction h using RpA.rec (motive_1 := fun _ _ _ => True) (motive_3 := fun _ _ _ => True) (motive_4 := fun _ _ _ => True) <;> try trivial
  · exact .nil
  · rename_i r t ih1 ih2
    simp only [List.reverse_cons]
    exact ih2.append (.cons r .nil)
theorem RpA.insert {vs : List V} {ds : List D} {v : V} {d : D} (i : Nat) (h : RpA K F vs ds) (r : Rp K F v d) : RpA K F (vs.take i ++ v :: vs.drop i) (ds.take i ++ d :: ds.drop i) :=
  (h.take i).append (.cons r (h.drop i))
end
end Ev
set_option Elab.async false
set_option linter.all false
set_option maxRecDepth 100000
set_option maxHeartbeats 1000000
/-! Ev2: slots, the state, what an expression's evaluator means. -/
namespace Ev
open PySem PySem.Spec PyProof.Rows L2

/-- a local name: nothing told | a frozen datum | a list or dict of one's own | the first argument, a list that the caller lends for change -/
inductive Slot where
  | emp
  | frz (d : D)
  | own (d : D)
  | io (d : D)
  /-- one's own list or dict, walked just now -/
  | lk (d : D)
abbrev Env := List Slot
/-- an expression's outcome: a frozen datum | a new list or dict | what the slot i holds -/
inductive Rs where
  | shr (d : D)
  | new (d : D)
  | var (i : Nat)
  | cst (d : D)

structure Ctx where
  F0 : Hp
  H0 : Hp
  w : Option (Addr × List V × List D)
  /-- what an evaluation holds in its hands meanwhile -/
  tmp : Hp := fun _ => none
  /-- what is frozen, and walked just now -/
  pin : Hp := fun _ => none
  /-- the slots whose objects are walked just now -/
  lk : Nat → Option Addr := fun _ => none

section
variable (K : PySem.W.Frag)
/-- a list or dict of one's own: its items are frozen -/
inductive Ob (F H : Hp) (a : Addr) : D → Prop
  | lst {xs : List V} {ds : List D} : H a = some (.lst xs) → RpA K F xs ds → Ob F H a (.list ds)
  | dK {kvs : List (Key × V)} {ds : List (D × D)} : H a = some (.dK kvs) → RpK K F kvs ds → Ob F H a (.dict ds)
  | dT {kvs : List (List Key × V)} {ds : List (D × D)} : kvs ≠ [] → H a = some (.dT kvs) → RpT K F kvs ds → Ob F H a (.dict ds)

def isRef : V → Bool
  | .ref _ => true
  | _ => false
/-- the lent list as it stands: items that are objects are those that were there (with the data that they had) -/
def IoP (w : Option (Addr × List V × List D)) (F H : Hp) (a : Addr) (d : D) : Prop :=
  ∃ xs ds xs0 ds0, d = .list ds ∧ H a = some (.lst xs) ∧ RpA K F xs ds ∧ w = some (a, xs0, ds0) ∧ ∀ p ∈ xs.zip ds, isRef p.1 = false ∨ p ∈ xs0.zip ds0

def SlotOk (c : Ctx) (F H : Hp) (o : Option V) : Slot → Prop
  | .emp => True
  | .frz d => ∃ v, o = some v ∧ Rp K F v d
  | .own d => ∃ a, o = some (.ref a) ∧ F a = none ∧ c.H0 a = none ∧ Ob K F H a d
  | .io d => ∃ a, o = some (.ref a) ∧ F a = none ∧ IoP K c.w F H a d
  | .lk _ => True

/-- a list or dict that is walked just now: its items are frozen -/
inductive LkO (F : Hp) : HO → D → Prop
  | lst {xs : List V} {ds : List D} : RpA K F xs ds → LkO F (.lst xs) (.list ds)
  | dK {o : Obj} {kvs : List (Key × V)} {ds : List (D × D)} : RpK K F kvs ds → LkO F (.frz o (.dK kvs)) (.dict ds)
def Slot.mine : Slot → Bool
  | .own _ => true
  | .io _ => true
  | _ => false

/-- every tuple there is is frozen -/
def Tf (F H : Hp) : Prop := ∀ b xs, H b = some (.tup xs) → F b = some (.tup xs)
structure G (c : Ctx) (F H : Hp) (σ : L2.St) (env : Env) : Prop where
  sub : Sub F H
  len : σ.length = env.length
  slot : ∀ (i : Nat) (sl : Slot) (o : Option V), env[i]? = some sl → σ[i]? = some o → SlotOk K c F H o sl
  dist : ∀ (i j : Nat) (s t : Slot) (v : V), i ≠ j → env[i]? = some s → env[j]? = some t → s.mine = true → t.mine = true → σ[i]? = some (some v) → σ[j]? ≠ some (some v)
  old : ∀ b o, c.H0 b = some o → (∀ q, c.w ≠ some (b, q)) → H b = some o
  fr0 : Same c.F0 F
  frn : ∀ b, F b ≠ none → c.F0 b ≠ none ∨ c.H0 b = none
  dom : ∀ b, c.H0 b ≠ none → H b ≠ none
  ioh : ∀ b q, c.w = some (b, q) → c.H0 b ≠ none ∧ c.F0 b = none
  tmp : ∀ a o, c.tmp a = some o → H a = some o ∧ F a = none ∧ ∀ (i : Nat) (s : Slot), env[i]? = some s → s.mine = true → σ[i]? ≠ some (some (.ref a))
  pin : ∀ a o, c.pin a = some o → H a = some o ∧ F a ≠ none
  lk : ∀ (i : Nat) (d : D), env[i]? = some (.lk d) → ∃ a o, c.lk i = some a ∧ σ[i]? = some (some (.ref a)) ∧ c.tmp a = some o ∧ LkO K F o d ∧ c.H0 a = none
  lkc : ∀ (i : Nat) (b : Addr), c.lk i = some b → c.tmp b ≠ none ∧ ∃ d, env[i]? = some (.lk d)
  fz : ∀ a ob u, H a = some (.frz ob u) → F a = some u → c.pin a = some (.frz ob u) ∨ c.H0 a = some (.frz ob u)
  tf : Tf F H

/-- what a result stands for -/
def RsOk (c : Ctx) (F H : Hp) (σ : L2.St) (env : Env) (v : V) : Rs → Prop
  | .shr d => Rp K F v d
  | .new d => ∃ a, v = .ref a ∧ F a = none ∧ (c.H0 a = none ∧ c.tmp a = none) ∧ Ob K F H a d ∧ ∀ (i : Nat) (s : Slot), env[i]? = some s → s.mine = true → σ[i]? ≠ some (some v)
  | .var i => σ[i]? = some (some v)
  | .cst d => Cst K v d

abbrev E := Env → Option (Rs × Env)
abbrev T := Env → Option (Bool × Env)
inductive Out where
  | nx (e : Env)
  | rt (r : Rs) (e : Env)
  | bk (e : Env)
  | ct (e : Env)
abbrev S := Env → Option Out

/-- the evaluator f as a reading -/
def tE (f : E) : TE := fun σ H Q => ∃ c F env r env', G K c F H σ env ∧ f env = some (r, env') ∧ ∀ v F' H', G K c F' H' σ env' → Same F F' → RsOk K c F' H' σ env' v r → Q v H'
def tT (f : T) : TT := fun σ H Q => ∃ c F env b env', G K c F H σ env ∧ f env = some (b, env') ∧ ∀ F' H', G K c F' H' σ env' → Same F F' → Q b H'
/-- what is asked behind a statement -/
def Post (c : Ctx) (F : Hp) (Dn : Ends) : Out → Prop
  | .nx e => ∀ σ' F' H', G K c F' H' σ' e → Same F F' → Dn.nx σ' H'
  | .rt r e => ∀ v σ' F' H', G K c F' H' σ' e → Same F F' → RsOk K c F' H' σ' e v r → Dn.rt v H'
  | .bk e => ∀ σ' F' H', G K c F' H' σ' e → Same F F' → Dn.bk σ' H'
  | .ct e => ∀ σ' F' H', G K c F' H' σ' e → Same F F' → Dn.ct σ' H'
def tS (f : S) : TS := fun Dn σ H => ∃ c F env o, G K c F H σ env ∧ f env = some o ∧ Post K c F Dn o
end

/-- the judgements -/
abbrev JE (X : Cx) (e : Expr) (f : E) : Prop := PE X e (tE X.K f)
abbrev JT (X : Cx) (e : Expr) (f : T) : Prop := PT X e (tT X.K f)
abbrev JS (X : Cx) (s : Stmt) (f : S) : Prop := PS X s (tS X.K f)
abbrev JSs (X : Cx) (s : List Stmt) (f : S) : Prop := PSs X s (tS X.K f)

section
variable {X : Cx}
theorem _root_.L2.PE.imp {e : Expr} {t t' : TE} (h : PE X e t) (i : ∀ σ H Q, t' σ H Q → t σ H Q) : PE X e t' := ⟨fun pins s σ H Q I hw => h.run pins s σ H Q I (i σ H Q hw)⟩
theorem _root_.L2.PT.imp {e : Expr} {t t' : TT} (h : PT X e t) (i : ∀ σ H Q, t' σ H Q → t σ H Q) : PT X e t' := ⟨fun pins s σ H Q I hw => h.run pins s σ H Q I (i σ H Q hw)⟩
theorem _root_.L2.PS.imp {e : Stmt} {t t' : TS} (h : PS X e t) (i : ∀ D σ H, t' D σ H → t D σ H) : PS X e t' := ⟨fun pins s σ H Q I hw => h.run pins s σ H Q I (i Q σ H hw)⟩
theorem _root_.L2.PSs.imp {e : List Stmt} {t t' : TS} (h : PSs X e t) (i : ∀ D σ H, t' D σ H → t D σ H) : PSs X e t' := ⟨fun pins s σ H Q I hw => h.run pins s σ H Q I (i Q σ H hw)⟩
theorem _root_.L2.PE.or {e : Expr} {t t' : TE} (h : PE X e t) (h' : PE X e t') : PE X e (fun σ H Q => t σ H Q ∨ t' σ H Q) := ⟨fun pins s σ H Q I hw => hw.elim (h.run pins s σ H Q I) (h'.run pins s σ H Q I)⟩
theorem _root_.L2.PT.or {e : Expr} {t t' : TT} (h : PT X e t) (h' : PT X e t') : PT X e (fun σ H Q => t σ H Q ∨ t' σ H Q) := ⟨fun pins s σ H Q I hw => hw.elim (h.run pins s σ H Q I) (h'.run pins s σ H Q I)⟩
end

/-! ### reading and taking a result -/
def Slot.get : Slot → Option D
  | .emp => none
  | .frz d => some d
  | .own d => some d
  | .io d => some d
  | .lk d => some d
/-- the datum, as it stands -/
def look : Rs → Env → Option D
  | .shr d, _ => some d
  | .new d, _ => some d
  | .var i, e => (e[i]?).bind Slot.get
  | .cst d, _ => if kcD d then some d else none
/-- a new object is frozen; a slot stays a slot -/
def settle : Rs → Rs
  | .new d => .shr d
  | r => r
/-- the datum, frozen from now on -/
def take : Rs → Env → Option (D × Env)
  | .shr d, e => some (d, e)
  | .new d, e => some (d, e)
  | .var i, e => match e[i]? with
    | some (.frz d) => some (d, e)
    | some (.own d) => some (d, e.set i (.frz d))
    | _ => none
  | .cst d, e => if kcD d then some (d, e) else none

/-- what is seen: over the whole heap -/
inductive Obs (K : PySem.W.Frag) (F H : Hp) : V → D → Prop
  | rp {v : V} {d : D} : Rp K F v d → Obs K F H v d
  | ob {a : Addr} {d : D} : Ob K F H a d → Obs K F H (.ref a) d
  | lk {a : Addr} {o : HO} {d : D} : H a = some o → LkO K F o d → Obs K F H (.ref a) d

section
variable {K : PySem.W.Frag} {c : Ctx} {F F' H H' : Hp} {σ : L2.St} {env : Env} {v : V} {d : D} {a : Addr}
theorem Same.upd {F : Hp} {a : Addr} {o : HO} (h : F a = none) : Same F (upd F a o) := fun b u e => by
  rw [upd_ne (ne_of_none e h)]; exact e
theorem Ob.mono (s : Same F F') (h : Ob K F H a d) : Ob K F' H a d := by
  cases h with
  | lst e r => exact .lst e (r.mono s)
  | dK e r => exact .dK e (r.mono s)
  | dT n e r => exact .dT n e (r.mono s)
theorem LkO.mono {o : HO} (s : Same F F') (h : LkO K F o d) : LkO K F' o d := by
  cases h with
  | lst r => exact .lst (r.mono s)
  | dK r => exact .dK (r.mono s)
theorem Ob.at (e : H' a = H a) (h : Ob K F H a d) : Ob K F H' a d := by
  cases h with
  | lst e' r => exact .lst (e.trans e') r
  | dK e' r => exact .dK (e.trans e') r
  | dT n e' r => exact .dT n (e.trans e') r
theorem Ob.there (h : Ob K F H a d) : ∃ o, H a = some o ∧ Mut (some o) := by
  cases h with
  | lst e _ => exact ⟨_, e, trivial⟩
  | dK e _ => exact ⟨_, e, trivial⟩
  | dT _ e _ => exact ⟨_, e, trivial⟩
/-- seen over the whole heap -/
theorem Ob.rp (s : Sub F H) (h : Ob K F H a d) : Rp K H (.ref a) d := by
  cases h with
  | lst e r => exact .lst (.inl (.inl e)) (r.sub s)
  | dK e r => exact .dK (.inl e) (r.sub s)
  | dT n e r => exact .dT n (.inl e) (r.sub s)
/-- frozen -/
theorem Ob.freeze {o : HO} (hF : F a = none) (e : H a = some o) (h : Ob K F H a d) : Rp K (upd F a o) (.ref a) d := by
  have s : Same F (upd F a o) := Same.upd hF
  cases h with
  | lst e' r => rw [e'] at e; cases e; exact .lst (.inl (.inl upd_same)) (r.mono s)
  | dK e' r => rw [e'] at e; cases e; exact .dK (.inl upd_same) (r.mono s)
  | dT n e' r => rw [e'] at e; cases e; exact .dT n (.inl upd_same) (r.mono s)
theorem IoP.ob {w : Option (Addr × List V × List D)} (h : IoP K w F H a d) : Ob K F H a d := by
  obtain ⟨xs, ds, _, _, rfl, e, r, _⟩ := h
  exact .lst e r
theorem IoP.mono {w : Option (Addr × List V × List D)} (s : Same F F') (h : IoP K w F H a d) : IoP K w F' H a d := by
  obtain ⟨xs, ds, xs0, ds0, rfl, e, r, q⟩ := h
  exact ⟨xs, ds, xs0, ds0, rfl, e, r.mono s, q⟩
theorem IoP.at {w : Option (Addr × List V × List D)} (e : H' a = H a) (h : IoP K w F H a d) : IoP K w F H' a d := by
  obtain ⟨xs, ds, xs0, ds0, rfl, e', r, q⟩ := h
  exact ⟨xs, ds, xs0, ds0, rfl, e.trans e', r, q⟩

/-- a slot of one's own: its object -/
theorem G.mineAt (g : G K c F H σ env) {i : Nat} {sl : Slot} {v : V} (e : env[i]? = some sl) (m : sl.mine = true) (h : σ[i]? = some (some v)) :
    ∃ a d, v = .ref a ∧ F a = none ∧ sl.get = some d ∧ Ob K F H a d ∧ (c.H0 a = none ∨ ∃ q, c.w = some (a, q)) := by
  have q := g.slot i sl (some v) e h
  cases sl with
  | emp => cases m
  | lk d => cases m
  | frz d => cases m
  | own d => obtain ⟨a, ev, hF, h0, ob⟩ := q; cases ev; exact ⟨a, d, rfl, hF, rfl, ob, .inl h0⟩
  | io d =>
    obtain ⟨a, ev, hF, io⟩ := q
    cases ev
    obtain ⟨_, _, _, _, _, _, _, hw, _⟩ := id io
    exact ⟨a, d, rfl, hF, rfl, io.ob, .inr ⟨_, hw⟩⟩

/-- the value of a slot that is told -/
theorem G.val (g : G K c F H σ env) {i : Nat} {sl : Slot} {d : D} (e : env[i]? = some sl) (h : sl.get = some d) : ∃ v, σ[i]? = some (some v) := by
  have hi : i < σ.length := by rw [g.len]; exact (List.getElem?_eq_some_iff.mp e).1
  have q := g.slot i sl _ e (List.getElem?_eq_getElem hi)
  cases sl with
  | emp => cases h
  | frz d => obtain ⟨v, ev, _⟩ := q; exact ⟨v, by rw [List.getElem?_eq_getElem hi, ev]⟩
  | own d => obtain ⟨a, ev, _⟩ := q; exact ⟨_, by rw [List.getElem?_eq_getElem hi, ev]⟩
  | io d => obtain ⟨a, ev, _⟩ := q; exact ⟨_, by rw [List.getElem?_eq_getElem hi, ev]⟩
  | lk d => obtain ⟨a, _, _, ev, _⟩ := g.lk i d e; exact ⟨_, ev⟩

theorem Obs.list (s : Sub F H) {ds : List D} (h : Obs K F H v (.list ds)) : ∃ a xs, v = .ref a ∧ LR K H a xs ∧ RpA K F xs ds := by
  cases h with
  | rp h => cases h with | lst e r => exact ⟨_, _, rfl, s.lr e, r⟩
  | ob h => cases h with | lst e r => exact ⟨_, _, rfl, .inl (.inl e), r⟩
  | lk e h => cases h with | lst r => exact ⟨_, _, rfl, .inl (.inl e), r⟩
theorem Obs.tuple (s : Sub F H) {ds : List D} (h : Obs K F H v (.tuple ds)) : ∃ a xs, v = .ref a ∧ SqT K H a xs ∧ (RpA K F xs ds ∨ CstA K xs ds) := by
  cases h with
  | rp h => cases h with | tup e r => exact ⟨_, _, rfl, s.sq e, .inl r⟩
  | ob h => cases h
  | lk e h => cases h
theorem Obs.tupleR (s : Sub F H) {ds : List D} (h : Obs K F H v (.tuple ds)) : ∃ a xs, v = .ref a ∧ SqT K H a xs ∧ RpA K F xs ds := by
  cases h with
  | rp h => cases h with | tup e r => exact ⟨_, _, rfl, s.sq e, r⟩
  | ob h => cases h
  | lk e h => cases h
theorem Obs.dict (s : Sub F H) {ds : List (D × D)} (h : Obs K F H v (.dict ds)) :
    (∃ a kvs, v = .ref a ∧ Rd H a (.dK kvs) ∧ RpK K F kvs ds) ∨ ∃ a kvs, v = .ref a ∧ kvs ≠ [] ∧ Rd H a (.dT kvs) ∧ RpT K F kvs ds := by
  cases h with
  | rp h => cases h with
    | dK e r => exact .inl ⟨_, _, rfl, s.rd e, r⟩
    | dT n e r => exact .inr ⟨_, _, rfl, n, s.rd e, r⟩
  | ob h => cases h with
    | dK e r => exact .inl ⟨_, _, rfl, .inl e, r⟩
    | dT n e r => exact .inr ⟨_, _, rfl, n, .inl e, r⟩
  | lk e h => cases h with
    | dK r => exact .inl ⟨_, _, rfl, .inr ⟨_, e⟩, r⟩
theorem Obs.int {i : Int} (h : Obs K F H v (.int i)) : v = .int i := by cases h with | rp h => cases h; rfl | ob h => cases h  | lk e h => cases h
theorem Obs.bool {i : Bool} (h : Obs K F H v (.bool i)) : v = .bl i := by cases h with | rp h => cases h; rfl | ob h => cases h  | lk e h => cases h
theorem Obs.str {i : Str} (h : Obs K F H v (.str i)) : v = .str i := by cases h with | rp h => cases h; rfl | ob h => cases h  | lk e h => cases h
theorem Obs.non (h : Obs K F H v .none) : v = .non := by cases h with | rp h => cases h; rfl | ob h => cases h  | lk e h => cases h

theorem look_ok {r : Rs} (g : G K c F H σ env) (h : RsOk K c F H σ env v r) (l : look r env = some d) : Obs K F H v d := by
  cases r with
  | shr d' => cases l; exact .rp h
  | new d' => cases l; obtain ⟨a, rfl, _, _, ob, _⟩ := h; exact .ob ob
  | var i =>
    have e : σ[i]? = some (some v) := h
    simp only [look] at l
    cases es : env[i]? with
    | none => rw [es] at l; cases l
    | some sl =>
    rw [es] at l
    have q := g.slot i sl _ es e
    simp only [Option.bind_some] at l
    cases sl with
    | emp => cases l
    | frz d' => cases l; obtain ⟨_, ev, r⟩ := q; cases ev; exact .rp r
    | own d' => cases l; obtain ⟨a, ev, _, _, ob⟩ := q; cases ev; exact .ob ob
    | io d' => cases l; obtain ⟨a, ev, _, io⟩ := q; cases ev; exact .ob io.ob
    | lk d' => cases l; obtain ⟨a, o, _, ev, ht, lo, _⟩ := g.lk i d es; rw [e] at ev; cases ev; exact .lk (g.tmp a o ht).1 lo
  | cst d' =>
    simp only [look] at l
    split at l
    · rename_i hk; cases l; exact .rp (Cst.rp hk h)
    · cases l

/-- freezing an object that is no slot's -/
theorem G.freezeNew {o : HO} (g : G K c F H σ env) (hF : F a = none) (h0 : c.H0 a = none) (ht : c.tmp a = none) (e : H a = some o)
    (hn : ∀ (i : Nat) (s : Slot), env[i]? = some s → s.mine = true → σ[i]? ≠ some (some (.ref a))) : G K c (upd F a o) H σ env := by
  have s : Same F (upd F a o) := Same.upd hF
  refine ⟨fun b u q => ?_, g.len, fun i sl ov es ev => ?_, g.dist, g.old, fun b u q => s b u (g.fr0 b u q), fun b q => ?_, g.dom, g.ioh, fun b u q => ?_, fun b u q => ⟨(g.pin b u q).1, fun z => ?_⟩, fun i d es => ?_, g.lkc, fun b ob u h1 h2 => ?_, fun b xs h => s b _ (g.tf b xs h)⟩
  · by_cases hb : b = a
    · subst hb; rw [upd_same] at q; cases q; exact .inl e
    · rw [upd_ne hb] at q; exact g.sub b u q
  · have q := g.slot i sl ov es ev
    cases sl with
    | emp => trivial
    | lk d => trivial
    | frz d => obtain ⟨v, ev, r⟩ := q; exact ⟨v, ev, r.mono s⟩
    | own d =>
      obtain ⟨b, e1, e2, e3, ob⟩ := q
      subst e1
      have hb : b ≠ a := fun z => hn i _ es rfl (by rw [ev, z])
      exact ⟨b, rfl, by rw [upd_ne hb]; exact e2, e3, ob.mono s⟩
    | io d =>
      obtain ⟨b, e1, e2, io⟩ := q
      subst e1
      have hb : b ≠ a := fun z => hn i _ es rfl (by rw [ev, z])
      exact ⟨b, rfl, by rw [upd_ne hb]; exact e2, io.mono s⟩
  · by_cases hb : b = a
    · subst hb; exact .inr h0
    · rw [upd_ne hb] at q; exact g.frn b q
  · obtain ⟨t1, t2, t3⟩ := g.tmp b u q
    exact ⟨t1, by rw [upd_ne (show b ≠ a from fun z => by rw [z, ht] at q; cases q)]; exact t2, t3⟩
  · have := (g.pin b u q).2
    by_cases hb : b = a
    · subst hb; rw [upd_same] at z; cases z
    · rw [upd_ne hb] at z; exact this z
  · obtain ⟨a', o', h1, h2, h3, h4, h5⟩ := g.lk i d es
    exact ⟨a', o', h1, h2, h3, h4.mono s, h5⟩
  · by_cases hb : b = a
    · subst hb
      rw [upd_same] at h2
      cases h2
      rw [e] at h1
      have := congrArg sizeOf (Option.some.inj h1)
      simp at this
    · rw [upd_ne hb] at h2
      exact g.fz b ob u h1 h2

/-- forgetting about slots -/
theorem G.slots {env' : Env} {σ' : L2.St} (g : G K c F H σ env) (hl : σ'.length = env'.length)
    (hs : ∀ (i : Nat) (sl : Slot) (o : Option V), env'[i]? = some sl → σ'[i]? = some o → SlotOk K c F H o sl)
    (hd : ∀ (i j : Nat) (s t : Slot) (v : V), i ≠ j → env'[i]? = some s → env'[j]? = some t → s.mine = true → t.mine = true → σ'[i]? = some (some v) → σ'[j]? ≠ some (some v))
    (ht : ∀ (i : Nat) (s : Slot) (b : Addr), env'[i]? = some s → s.mine = true → σ'[i]? = some (some (.ref b)) → c.tmp b = none)
    (hk : ∀ (i : Nat) (d : D), env'[i]? = some (.lk d) → env[i]? = some (.lk d) ∧ σ'[i]? = σ[i]?)
    (hk' : ∀ (i : Nat) (d : D), env[i]? = some (.lk d) → env'[i]? = some (.lk d)) : G K c F H σ' env' :=
  ⟨g.sub, hl, hs, hd, g.old, g.fr0, g.frn, g.dom, g.ioh, fun a o e => ⟨(g.tmp a o e).1, (g.tmp a o e).2.1, fun i s es m ev => by rw [ht i s a es m ev] at e; cases e⟩, g.pin, fun i d es => by
    obtain ⟨e1, e2⟩ := hk i d es
    obtain ⟨a, o, h1, h2, h3⟩ := g.lk i d e1
    exact ⟨a, o, h1, e2.trans h2, h3⟩, fun i b e => by
    obtain ⟨h1, d, h2⟩ := g.lkc i b e
    exact ⟨h1, d, hk' i d h2⟩, g.fz, g.tf⟩
/-- a slot's object is held by nothing else -/
theorem G.tmpNo (g : G K c F H σ env) {i : Nat} {s : Slot} {b : Addr} (es : env[i]? = some s) (m : s.mine = true) (ev : σ[i]? = some (some (.ref b))) : c.tmp b = none := by
  cases q : c.tmp b with
  | none => rfl
  | some o => exact absurd ev ((g.tmp b o q).2.2 i s es m)

/-- the slot i holds a frozen datum from now on (its value as it stands) -/
theorem G.refrz (g : G K c F H σ env) {i : Nat} {v : V} (hv : σ[i]? = some (some v)) (r : Rp K F v d) (hnl : ∀ d', env[i]? ≠ some (.lk d')) : G K c F H σ (env.set i (.frz d)) := by
  have auxk : ∀ (m : Nat) (d' : D), (env.set i (.frz d))[m]? = some (.lk d') → env[m]? = some (.lk d') := fun m d' e => by
    by_cases hm : m = i
    · subst hm
      have hi : m < env.length := by
        have := (List.getElem?_eq_some_iff.mp e).1
        rwa [List.length_set] at this
      rw [List.getElem?_set_self hi] at e
      cases e
    · rwa [List.getElem?_set_ne (Ne.symm hm)] at e
  have aux : ∀ (m : Nat) (s : Slot), (env.set i (.frz d))[m]? = some s → s.mine = true → env[m]? = some s := fun m s e mm => by
    by_cases hm : m = i
    · subst hm
      have hi : m < env.length := by
        have := (List.getElem?_eq_some_iff.mp e).1
        rwa [List.length_set] at this
      rw [List.getElem?_set_self hi] at e
      cases e; cases mm
    · rwa [List.getElem?_set_ne (Ne.symm hm)] at e
  refine g.slots (by rw [List.length_set]; exact g.len) (fun j sl o es ev => ?_) (fun j k s t v hjk e1 e2 m1 m2 => ?_) (fun j s b es m ev => g.tmpNo (aux j s es m) m ev) (fun j d' es => ⟨auxk j d' es, rfl⟩) fun j d' es => (List.getElem?_set_ne fun z => hnl d' (by rw [z]; exact es)).trans es
  · by_cases hj : j = i
    · subst hj
      have hi : j < env.length := by rw [← g.len]; exact (List.getElem?_eq_some_iff.mp hv).1
      rw [List.getElem?_set_self hi] at es
      cases es
      rw [hv] at ev; cases ev
      exact ⟨v, rfl, r⟩
    · rw [List.getElem?_set_ne (Ne.symm hj)] at es
      exact g.slot j sl o es ev
  · exact g.dist j k s t v hjk (aux j s e1 m1) (aux k t e2 m2) m1 m2

/-- frozen: the own slot i -/
theorem G.freezeSlot {i : Nat} {o : HO} (g : G K c F H σ env) (es : env[i]? = some (.own d)) (ev : σ[i]? = some (some (.ref a))) (e : H a = some o) :
    G K c (upd F a o) H σ (env.set i (.frz d)) ∧ Same F (upd F a o) ∧ Rp K (upd F a o) (.ref a) d := by
  obtain ⟨b, e1, hF, h0, ob⟩ := g.slot i _ _ es ev
  cases e1
  have s : Same F (upd F a o) := Same.upd hF
  have r : Rp K (upd F a o) (.ref a) d := ob.freeze hF e
  have hi : i < env.length := (List.getElem?_eq_some_iff.mp es).1
  -- first the slot is forgotten, then the object is frozen, then the slot is told anew
  have auxk : ∀ (m : Nat) (d' : D), (env.set i .emp)[m]? = some (.lk d') → env[m]? = some (.lk d') := fun m d' e => by
    by_cases hm : m = i
    · subst hm; rw [List.getElem?_set_self hi] at e; cases e
    · rwa [List.getElem?_set_ne (Ne.symm hm)] at e
  have aux : ∀ (m : Nat) (s : Slot), (env.set i .emp)[m]? = some s → s.mine = true → env[m]? = some s := fun m s e mm => by
    by_cases hm : m = i
    · subst hm; rw [List.getElem?_set_self hi] at e; cases e; cases mm
    · rwa [List.getElem?_set_ne (Ne.symm hm)] at e
  have hnl : ∀ d', env[i]? ≠ some (.lk d') := fun d' z => by rw [es] at z; cases z
  have g1 : G K c F H σ (env.set i .emp) := by
    refine g.slots (by rw [List.length_set]; exact g.len) (fun j sl o es' ev' => ?_) (fun j k s t v hjk e1 e2 m1 m2 => ?_) (fun j s b es m ev => g.tmpNo (aux j s es m) m ev) (fun j d' es => ⟨auxk j d' es, rfl⟩) fun j d' es => (List.getElem?_set_ne fun z => hnl d' (by rw [z]; exact es)).trans es
    · by_cases hj : j = i
      · subst hj; rw [List.getElem?_set_self hi] at es'; cases es'; trivial
      · rw [List.getElem?_set_ne (Ne.symm hj)] at es'; exact g.slot j sl o es' ev'
    · exact g.dist j k s t v hjk (aux j s e1 m1) (aux k t e2 m2) m1 m2
  have g2 : G K c (upd F a o) H σ (env.set i .emp) := g1.freezeNew hF h0 (g.tmpNo es rfl ev) e fun j s e2 m2 => by
    by_cases hj : j = i
    · subst hj; rw [List.getElem?_set_self hi] at e2; cases e2; cases m2
    · rw [List.getElem?_set_ne (Ne.symm hj)] at e2
      exact g.dist i j _ s _ (Ne.symm hj) es e2 rfl m2 ev
  have g3 := g2.refrz ev r fun d' z => by rw [List.getElem?_set_self hi] at z; cases z
  rw [List.set_set] at g3
  exact ⟨g3, s, r⟩

theorem take_ok {r : Rs} {env' : Env} (g : G K c F H σ env) (h : RsOk K c F H σ env v r) (l : take r env = some (d, env')) : ∃ F', G K c F' H σ env' ∧ Same F F' ∧ Rp K F' v d := by
  cases r with
  | shr d' => cases l; exact ⟨F, g, Same.refl F, h⟩
  | new d' =>
    cases l
    obtain ⟨a, rfl, hF, h0, ob, hn⟩ := h
    obtain ⟨o, e, _⟩ := ob.there
    exact ⟨upd F a o, g.freezeNew hF h0.1 h0.2 e hn, Same.upd hF, ob.freeze hF e⟩
  | var i =>
    have e : σ[i]? = some (some v) := h
    simp only [take] at l
    cases es : env[i]? with
    | none => rw [es] at l; cases l
    | some sl =>
    rw [es] at l
    cases sl with
    | emp => cases l
    | frz d' =>
      cases l
      obtain ⟨_, ev, r⟩ := g.slot i _ _ es e
      cases ev
      exact ⟨F, g, Same.refl F, r⟩
    | own d' =>
      cases l
      obtain ⟨a, ev, hF, h0, ob⟩ := g.slot i _ _ es e
      cases ev
      obtain ⟨o, eo, _⟩ := ob.there
      obtain ⟨g', s, r⟩ := g.freezeSlot es e eo
      exact ⟨_, g', s, r⟩
    | io d' => cases l
    | lk d' => cases l
  | cst d' =>
    simp only [take] at l
    split at l
    · rename_i hk
      cases l
      exact ⟨F, g, Same.refl F, Cst.rp hk h⟩
    · cases l

/-- a new result is frozen, a slot stays what it is -/
theorem settle_ok {r : Rs} (g : G K c F H σ env) (h : RsOk K c F H σ env v r) : ∃ F', G K c F' H σ env ∧ Same F F' ∧ RsOk K c F' H σ env v (settle r) := by
  cases r with
  | shr d' => exact ⟨F, g, Same.refl F, h⟩
  | new d' =>
    obtain ⟨F', g', s, r⟩ := take_ok (r := .new d') g h rfl
    exact ⟨F', g', s, r⟩
  | var i => exact ⟨F, g, Same.refl F, h⟩
  | cst d => exact ⟨F, g, Same.refl F, h⟩

/-- settled results stay -/
def Rs.settled : Rs → Bool
  | .new _ => false
  | _ => true
theorem settle_settled (r : Rs) : (settle r).settled = true := by cases r <;> rfl
end
end Ev
set_option Elab.async false
set_option linter.all false
set_option maxRecDepth 100000
set_option maxHeartbeats 1000000
/-! Ev3: names, constants, operators, comparisons. -/
namespace Ev
open PySem PySem.Spec PyProof.Rows L2

section
variable {K : PySem.W.Frag} {c : Ctx} {F F' H H' : Hp} {σ : L2.St} {env env' : Env} {v : V} {d : D} {a : Addr}
/-- what is told of a settled result stays -/
theorem RsOk.keep {r : Rs} (h : RsOk K c F H σ env v r) (hr : r.settled = true) (s : Same F F') : RsOk K c F' H' σ env' v r := by
  cases r with
  | shr d => exact Rp.mono s h
  | new d => cases hr
  | var i => exact h
  | cst d => exact h
theorem upd_nt {H : Hp} {p b : Addr} {o : HO} {xs : List V} (nt : ∀ xs, o ≠ .tup xs) (h : upd H p o b = some (.tup xs)) : H b = some (.tup xs) := by
  by_cases hb : b = p
  · rw [hb, upd_same] at h; exact absurd (Option.some.inj h) (nt xs)
  · rwa [upd_ne hb] at h
theorem Ob.nt {K : PySem.W.Frag} {F H : Hp} {p : Addr} {o : HO} {d : D} (ob : Ob K F (upd H p o) p d) : ∀ xs, o ≠ .tup xs := fun xs z => by
  subst z
  cases ob with
  | lst e _ => rw [upd_same] at e; cases e
  | dK e _ => rw [upd_same] at e; cases e
  | dT _ e _ => rw [upd_same] at e; cases e
/-- a new object is laid -/
theorem G.laid (g : G K c F H σ env) {p : Addr} {o : HO} (hp : H p = none) (nt : ∀ xs, o ≠ .tup xs := by intro _ z; cases z) : G K c F (upd H p o) σ env := by
  have s : Same H (upd H p o) := Same.upd hp
  have at_ : ∀ {b : Addr} {u : HO}, H b = some u → upd H p o b = H b := fun {b u} e => by rw [upd_ne (ne_of_none e hp)]
  refine ⟨fun b u e => ?_, g.len, fun i sl ov es ev => ?_, g.dist, fun b u e q => s b u (g.old b u e q), g.fr0, g.frn, fun b q => ?_, g.ioh, fun b u q => ⟨s b u (g.tmp b u q).1, (g.tmp b u q).2⟩, fun b u q => ⟨s b u (g.pin b u q).1, (g.pin b u q).2⟩, g.lk, g.lkc, fun b ob u h1 h2 => g.fz b ob u (by rwa [upd_ne (fun z => by rw [z, g.sub.none hp] at h2; cases h2)] at h1) h2, fun b xs h => g.tf b xs (upd_nt nt h)⟩
  · rcases g.sub b u e with z | ⟨m, ob, z⟩
    · exact .inl (s b u z)
    · exact .inr ⟨m, ob, s b _ z⟩
  · have q := g.slot i sl ov es ev
    cases sl with
    | emp => trivial
    | lk d => trivial
    | frz d => exact q
    | own d =>
      obtain ⟨b, e1, e2, e3, ob⟩ := q
      obtain ⟨u, eu, _⟩ := ob.there
      exact ⟨b, e1, e2, e3, ob.at (at_ eu)⟩
    | io d =>
      obtain ⟨b, e1, e2, io⟩ := q
      obtain ⟨u, eu, _⟩ := io.ob.there
      exact ⟨b, e1, e2, io.at (at_ eu)⟩
  · intro z
    cases q' : H b with
    | none => exact g.dom b q q'
    | some u => rw [s b u q'] at z; cases z
/-- a new address is new to all -/
theorem G.new (g : G K c F H σ env) {p : Addr} (hp : H p = none) : F p = none ∧ (c.H0 p = none ∧ c.tmp p = none) ∧ ∀ (i : Nat) (s : Slot), env[i]? = some s → s.mine = true → σ[i]? ≠ some (some (.ref p)) := by
  refine ⟨g.sub.none hp, ⟨?_, ?_⟩, fun i s es m ev => ?_⟩
  · cases q : c.H0 p with
    | none => rfl
    | some u => exact absurd hp (g.dom p (by rw [q]; simp))
  · cases q : c.tmp p with
    | none => rfl
    | some u => rw [(g.tmp p u q).1] at hp; cases hp
  · obtain ⟨a, d, e1, _, _, ob, _⟩ := g.mineAt es m ev
    cases e1
    obtain ⟨u, eu, _⟩ := ob.there
    rw [hp] at eu; cases eu
theorem G.laidT (g : G K c F H σ env) {p : Addr} {xs : List V} (hp : H p = none) : G K c (upd F p (.tup xs)) (upd H p (.tup xs)) σ env := by
  obtain ⟨h1, h2, h3⟩ := g.new hp
  have s : Same H (upd H p (.tup xs)) := Same.upd hp
  have sF : Same F (upd F p (.tup xs)) := Same.upd h1
  have ne_ : ∀ {b : Addr} {u : HO}, H b = some u → b ≠ p := fun {b u} e => ne_of_none e hp
  refine ⟨fun b u e => ?_, g.len, fun i sl ov es ev => ?_, g.dist, fun b u e q => s b u (g.old b u e q), fun b u q => sF b u (g.fr0 b u q), fun b e => ?_, fun b q => ?_, fun b q e => ?_, fun b u q => ?_, fun b u q => ⟨s b u (g.pin b u q).1, fun z => ?_⟩, fun i d es => ?_, g.lkc, fun b ob u q1 q2 => ?_, fun b ys q => ?_⟩
  · by_cases hb : b = p
    · subst hb; rw [upd_same] at e; cases e; exact .inl upd_same
    · rw [upd_ne hb] at e
      rcases g.sub b u e with z | ⟨m, ob, z⟩
      · exact .inl (s b u z)
      · exact .inr ⟨m, ob, s b _ z⟩
  · have q := g.slot i sl ov es ev
    cases sl with
    | emp => trivial
    | lk d => trivial
    | frz d => obtain ⟨v, ev, r⟩ := q; exact ⟨v, ev, r.mono sF⟩
    | own d =>
      obtain ⟨b, e1, e2, e3, ob⟩ := q
      obtain ⟨u, eu, _⟩ := ob.there
      exact ⟨b, e1, by rw [upd_ne (ne_ eu)]; exact e2, e3, (ob.mono sF).at (upd_ne (ne_ eu))⟩
    | io d =>
      obtain ⟨b, e1, e2, io⟩ := q
      obtain ⟨u, eu, _⟩ := io.ob.there
      exact ⟨b, e1, by rw [upd_ne (ne_ eu)]; exact e2, (io.mono sF).at (upd_ne (ne_ eu))⟩
  · by_cases hb : b = p
    · subst hb; exact .inr h2.1
    · rw [upd_ne hb] at e; exact g.frn b e
  · intro z
    cases q' : H b with
    | none => exact g.dom b q q'
    | some u => rw [s b u q'] at z; cases z
  · exact g.ioh b q e
  · obtain ⟨q1, q2, q3⟩ := g.tmp b u q
    exact ⟨s b u q1, by rw [upd_ne (ne_ q1)]; exact q2, q3⟩
  · obtain ⟨q1, q2⟩ := g.pin b u q
    rw [upd_ne (ne_ q1)] at z; exact q2 z
  · obtain ⟨a', o', q1, q2, q3, q4, q5⟩ := g.lk i d es
    exact ⟨a', o', q1, q2, q3, q4.mono sF, q5⟩
  · by_cases hb : b = p
    · subst hb; rw [upd_same] at q1; cases q1
    · rw [upd_ne hb] at q1 q2; exact g.fz b ob u q1 q2
  · by_cases hb : b = p
    · subst hb; rw [upd_same] at q ⊢; exact q
    · rw [upd_ne hb] at q ⊢; exact g.tf b ys q
theorem G.laidNew (g : G K c F H σ env) {p : Addr} {o : HO} (hp : H p = none) (ob : Ob K F (upd H p o) p d) : G K c F (upd H p o) σ env ∧ RsOk K c F (upd H p o) σ env (.ref p) (.new d) := by
  obtain ⟨h1, h2, h3⟩ := g.new hp
  exact ⟨g.laid hp ob.nt, p, rfl, h1, h2, ob, h3⟩
/-- a new tuple is frozen at once -/
theorem G.laidTup (g : G K c F H σ env) {p : Addr} {xs : List V} {ds : List D} (hp : H p = none) (r : RpA K F xs ds) :
    ∃ F', G K c F' (upd H p (.tup xs)) σ env ∧ Same F F' ∧ RsOk K c F' (upd H p (.tup xs)) σ env (.ref p) (.shr (.tuple ds)) := by
  obtain ⟨h1, h2, h3⟩ := g.new hp
  exact ⟨upd F p (.tup xs), g.laidT hp, Same.upd h1, .tup (.inl upd_same) (r.mono (Same.upd h1))⟩
end

section
variable {K : PySem.W.Frag} {c : Ctx} {F H : Hp} {σ : L2.St} {env : Env}
/-- a new object is held in the hands -/
abbrev Ctx.hold (c : Ctx) (p : Addr) (o : HO) : Ctx := { c with tmp := upd c.tmp p o }
theorem SlotOk.ctx {c' : Ctx} {o : Option V} {sl : Slot} (h0 : c'.H0 = c.H0) (hw : c'.w = c.w) (h : SlotOk K c F H o sl) : SlotOk K c' F H o sl := by
  cases sl with
  | emp => trivial
  | frz d => exact h
  | own d => obtain ⟨a, e1, e2, e3, ob⟩ := h; exact ⟨a, e1, e2, by rw [h0]; exact e3, ob⟩
  | io d => obtain ⟨a, e1, e2, io⟩ := h; exact ⟨a, e1, e2, by rw [hw]; exact io⟩
  | lk d => trivial
theorem G.hold (g : G K c F H σ env) {p : Addr} {o : HO} (hp : H p = none) (nt : ∀ xs, o ≠ .tup xs := by intro _ z; cases z) : G K (c.hold p o) F (upd H p o) σ env := by
  obtain ⟨h1, h2, h3⟩ := g.new hp
  have g' := g.laid (o := o) hp nt
  refine ⟨g'.sub, g'.len, fun i sl ov es ev => (g'.slot i sl ov es ev).ctx rfl rfl, g'.dist, g'.old, g'.fr0, g'.frn, g'.dom, g'.ioh, fun a u e => ?_, g'.pin, fun i d es => ?_, fun i b e => ?_, g'.fz, g'.tf⟩
  · by_cases ha : a = p
    · subst ha
      have e' : upd c.tmp a o a = some u := e
      rw [upd_same] at e'; cases e'
      exact ⟨upd_same, h1, h3⟩
    have e' : upd c.tmp p o a = some u := e
    rw [upd_ne ha] at e'
    exact g'.tmp a u e'
  · obtain ⟨a, o', q1, q2, q3, q4⟩ := g'.lk i d es
    refine ⟨a, o', q1, q2, ?_, q4⟩
    show upd c.tmp p o a = some o'
    rw [upd_ne fun z => by rw [z, h2.2] at q3; cases q3]
    exact q3
  · obtain ⟨q1, q2⟩ := g'.lkc i b e
    refine ⟨?_, q2⟩
    show upd c.tmp p o b ≠ none
    by_cases hb : b = p
    · rw [hb, upd_same]; simp
    · rw [upd_ne hb]; exact q1
theorem G.held {p : Addr} {o : HO} (g : G K (c.hold p o) F H σ env) : H p = some o ∧ F p = none ∧ ∀ (i : Nat) (s : Slot), env[i]? = some s → s.mine = true → σ[i]? ≠ some (some (.ref p)) := g.tmp p o upd_same
/-- what is held changes -/
theorem G.rehold {p : Addr} {o u : HO} (g : G K (c.hold p o) F H σ env) (h0 : c.H0 p = none) (hlk : ∀ i, c.lk i ≠ some p) (nt : ∀ xs, u ≠ .tup xs := by intro _ z; cases z) : G K (c.hold p u) F (upd H p u) σ env := by
  obtain ⟨h1, h2, h3⟩ := g.held
  have at_ : ∀ {b : Addr}, b ≠ p → upd H p u b = H b := fun {b} e => upd_ne e
  refine ⟨fun b w e => ?_, g.len, fun i sl ov es ev => ?_, g.dist, fun b w e q => ?_, g.fr0, g.frn, fun b q => ?_, g.ioh, fun a w e => ?_, fun b w e => ?_, fun i d es => ?_, fun i b e => ?_, fun b ob w q1 q2 => g.fz b ob w (by rwa [at_ (fun z => by rw [z, h2] at q2; cases q2)] at q1) q2, fun b xs h => g.tf b xs (upd_nt nt h)⟩
  · have hb : b ≠ p := fun z => by rw [z, h2] at e; cases e
    rcases g.sub b w e with z | ⟨m, ob, z⟩
    · exact .inl ((at_ hb).trans z)
    · exact .inr ⟨m, ob, (at_ hb).trans z⟩
  · have q := g.slot i sl ov es ev
    cases sl with
    | emp => trivial
    | lk d => trivial
    | frz d => exact q
    | own d =>
      obtain ⟨b, e1, e2, e3, ob⟩ := q
      have hb : b ≠ p := fun z => h3 i _ es rfl (by rw [ev, e1, z])
      exact ⟨b, e1, e2, e3, ob.at (at_ hb)⟩
    | io d =>
      obtain ⟨b, e1, e2, io⟩ := q
      have hb : b ≠ p := fun z => h3 i _ es rfl (by rw [ev, e1, z])
      exact ⟨b, e1, e2, io.at (at_ hb)⟩
  · have hb : b ≠ p := fun z => by
      have e' : c.H0 b = some w := e
      rw [z, h0] at e'; cases e'
    exact (at_ hb).trans (g.old b w e q)
  · by_cases hb : b = p
    · subst hb; rw [upd_same]; simp
    · rw [at_ hb]; exact g.dom b q
  · by_cases ha : a = p
    · subst ha
      have e' : upd c.tmp a u a = some w := e
      rw [upd_same] at e'; cases e'
      exact ⟨upd_same, h2, h3⟩
    · have e' : upd c.tmp p u a = some w := e
      rw [upd_ne ha] at e'
      have q := g.tmp a w (by show upd c.tmp p o a = some w; rw [upd_ne ha]; exact e')
      exact ⟨(at_ ha).trans q.1, q.2⟩
  · obtain ⟨q1, q2⟩ := g.pin b w e
    exact ⟨(at_ fun z => q2 (by rw [z]; exact h2)).trans q1, q2⟩
  · obtain ⟨a, o', q1, q2, q3, q4⟩ := g.lk i d es
    have ha : a ≠ p := fun z => hlk i (by rw [← z]; exact q1)
    refine ⟨a, o', q1, q2, ?_, q4⟩
    show upd c.tmp p u a = some o'
    have q3' : upd c.tmp p o a = some o' := q3
    rw [upd_ne ha] at q3' ⊢
    exact q3'
  · obtain ⟨q1, q2⟩ := g.lkc i b e
    refine ⟨?_, q2⟩
    show upd c.tmp p u b ≠ none
    by_cases hb : b = p
    · rw [hb, upd_same]; simp
    · have q1' : upd c.tmp p o b ≠ none := q1
      rw [upd_ne hb] at q1' ⊢; exact q1'
/-- it leaves the hands -/
theorem G.drop {p : Addr} {o : HO} (g : G K (c.hold p o) F H σ env) (ht : c.tmp p = none) (hlk : ∀ i, c.lk i ≠ some p) : G K c F H σ env := by
  refine ⟨g.sub, g.len, fun i sl ov es ev => (g.slot i sl ov es ev).ctx rfl rfl, g.dist, g.old, g.fr0, g.frn, g.dom, g.ioh, fun a u e => ?_, g.pin, fun i d es => ?_, fun i b e => ?_, g.fz, g.tf⟩
  · have ha : a ≠ p := fun z => by rw [z, ht] at e; cases e
    exact g.tmp a u (by show upd c.tmp p o a = some u; rw [upd_ne ha]; exact e)
  · obtain ⟨a, o', q1, q2, q3, q4⟩ := g.lk i d es
    have ha : a ≠ p := fun z => hlk i (by rw [← z]; exact q1)
    have q3' : upd c.tmp p o a = some o' := q3
    rw [upd_ne ha] at q3'
    exact ⟨a, o', q1, q2, q3', q4⟩
  · obtain ⟨q1, q2⟩ := g.lkc i b e
    have hb : b ≠ p := fun z => hlk i (by rw [← z]; exact e)
    have q1' : upd c.tmp p o b ≠ none := q1
    rw [upd_ne hb] at q1'
    exact ⟨q1', q2⟩
end

/-! ### names, constants -/
def eV (i : Nat) : E := fun e => match e[i]? with
  | some (.frz d) => some (.shr d, e)
  | some (.own _) => some (.var i, e)
  | some (.io _) => some (.var i, e)
  | some (.lk _) => some (.var i, e)
  | _ => none
def eC (d : D) : E := fun e => some (.shr d, e)
section
variable {X : Cx}
theorem je_v (i : Nat) {x : Str} {pos : Pos} (hN : X.N[i]? = some x := by rfl) (hv : Vis X.env.scope x := by first | exact Or.inl rfl | exact Or.inr (Or.inl rfl) | exact Or.inr (Or.inr rfl)) (hd : (x == ("__debug__" : Str)) = false := by decide)
    (hcd : (x == ("__classdict__" : Str)) = false := by decide) : JE X (.Name x pos) (eV i) := (pe_var (pos := pos) hN hv hd hcd).imp fun σ H Q h => by
  obtain ⟨c, F, env, r, env', g, hf, q⟩ := h
  unfold eV at hf
  cases es : env[i]? with
  | none => rw [es] at hf; cases hf
  | some sl =>
    rw [es] at hf
    cases sl with
    | emp => cases hf
    | frz d =>
      cases hf
      obtain ⟨v, ev⟩ := g.val es rfl
      refine ⟨v, ev, q v F H g (Same.refl F) ?_⟩
      obtain ⟨v', e1, r⟩ := g.slot i _ _ es ev
      cases e1
      exact r
    | own d =>
      cases hf
      obtain ⟨v, ev⟩ := g.val es rfl
      exact ⟨v, ev, q v F H g (Same.refl F) ev⟩
    | io d =>
      cases hf
      obtain ⟨v, ev⟩ := g.val es rfl
      exact ⟨v, ev, q v F H g (Same.refl F) ev⟩
    | lk d =>
      cases hf
      obtain ⟨v, ev⟩ := g.val es rfl
      exact ⟨v, ev, q v F H g (Same.refl F) ev⟩
theorem je_c {e : Expr} {v : V} {d : D} (h : PE X e (tC v)) (r : ∀ F, Rp X.K F v d) : JE X e (eC d) := h.imp fun σ H Q h => by
  obtain ⟨c, F, env, r', env', g, hf, q⟩ := h
  cases hf
  exact q v F H g (Same.refl F) (r F)
def eK (d : D) : E := fun e => some (.cst d, e)
/-- a module's constant -/
theorem je_cst {x : Str} {v : V} {u : Value} {pos : Pos} {d : D} (hg : Gl X x) (hm : X.mg x = some u) (r : RelV v u) (hr : Cst X.K v d) (hd : (x == ("__debug__" : Str)) = false := by decide) : JE X (.Name x pos) (eK d) := (pe_glob (pos := pos) hg hm r hd).imp fun σ H Q h => by
  obtain ⟨c, F, env, r', env', g, hf, q⟩ := h
  cases hf
  exact q v F H g (Same.refl F) hr
theorem je_int {i : Int} {j pos} : JE X (.Constant (.int i) j pos) (eC (.int i)) := je_c pe_int fun _ => .int _
theorem je_bl {i : Bool} {j pos} : JE X (.Constant (.bool i) j pos) (eC (.bool i)) := je_c pe_bl fun _ => .bl _
theorem je_str {i : Str} {j pos} : JE X (.Constant (.str i) j pos) (eC (.str i)) := je_c pe_str fun _ => .str _
theorem je_non {j pos} : JE X (.Constant .none j pos) (eC .none) := je_c pe_non fun _ => .non
/-- a module's constant: an int, a text -/
theorem je_glob {x : Str} {v : V} {u : Value} {pos : Pos} {d : D} (hg : Gl X x) (hm : X.mg x = some u) (r : RelV v u) (hr : ∀ F, Rp X.K F v d) (hd : (x == ("__debug__" : Str)) = false := by decide) : JE X (.Name x pos) (eC d) := je_c (pe_glob hg hm r hd) hr
end

/-! ### two operands -/
def eBin (op : D → D → Option Rs) (fa fb : E) : E := fun e => do
  let (ra, e1) ← fa e
  let (rb, e2) ← fb e1
  let da ← look (settle ra) e2
  let db ← look rb e2
  let r ← op da db
  pure (r, e2)
def OpOk (K : PySem.W.Frag) (r : R2) (op : D → D → Option Rs) : Prop := ∀ (c : Ctx) (F H : Hp) (σ : L2.St) (env : Env) (x y : V) (da db : D) (res : Rs), G K c F H σ env → Obs K F H x da → Obs K F H y db → op da db = some res →
  ∀ Q : VK, (∀ v F' H', G K c F' H' σ env → Same F F' → RsOk K c F' H' σ env v res → Q v H') → r x y H Q
section
variable {X : Cx}
theorem bin_ok {r : R2} {op : D → D → Option Rs} {fa fb : E} (h : OpOk X.K r op) {σ : L2.St} {H : Hp} {Q : VK} (w : tE X.K (eBin op fa fb) σ H Q) : tOp r (tE X.K fa) (tE X.K fb) σ H Q := by
  obtain ⟨c, F, env, res, env', g, hf, q⟩ := w
  simp only [eBin, bind, Option.bind_eq_some_iff, pure, Option.some.injEq] at hf
  obtain ⟨⟨ra, e1⟩, ha, ⟨rb, e2⟩, hb, da, hda, db, hdb, r', hr, e⟩ := hf
  cases e
  refine ⟨c, F, env, ra, e1, g, ha, fun x F1 H1 g1 s1 r1 => ?_⟩
  obtain ⟨F2, g2, s2, r2⟩ := settle_ok g1 r1
  refine ⟨c, F2, e1, rb, e2, g2, hb, fun y F3 H3 g3 s3 r3 => ?_⟩
  exact h c F3 H3 σ e2 x y da db res g3 (look_ok g3 (r2.keep (settle_settled ra) s3) hda) (look_ok g3 r3 hdb) hr Q fun v F' H' g' s' rr => q v F' H' g' (((s1.trans s2).trans s3).trans s') rr
variable {a b : Expr} {fa fb : E} {pos : Pos}
theorem je_bin {op : Operator} {r : R2} {o : D → D → Option Rs} (ho : OpR X (binaryOp op) r) (h : OpOk X.K r o) (ha : JE X a fa) (hb : JE X b fb) : JE X (.BinOp a op b pos) (eBin o fa fb) :=
  (pe_op ho ha hb).imp fun _ _ _ w => bin_ok h w
theorem je_cmp {op : CmpOp} {r : R2} {o : D → D → Option Rs} (ho : OpR X (compareOp op) r) (h : OpOk X.K r o) (ha : JE X a fa) (hb : JE X b fb) (hm : behindInMarks op b = false) : JE X (.Compare a [op] [b] pos) (eBin o fa fb) :=
  (pe_cmpR ho ha hb hm).imp fun _ _ _ w => bin_ok h w
def asT (f : E) : T := fun e => do
  let (r, e1) ← f e
  match r with
  | .shr (.bool b) => pure (b, e1)
  | _ => none
theorem asT_ok {K : PySem.W.Frag} {f : E} {σ : L2.St} {H : Hp} {Q : Bool → Hp → Prop} (w : tT K (asT f) σ H Q) : tE K f σ H fun x H' => ∃ k, x = .bl k ∧ Q k H' := by
  obtain ⟨c, F, env, res, env', g, hf, q⟩ := w
  simp only [asT, bind, Option.bind_eq_some_iff] at hf
  obtain ⟨⟨r, e1⟩, h1, h2⟩ := hf
  split at h2
  · rename_i b hr
    dsimp only at hr
    subst hr
    simp only [pure, Option.some.injEq, Prod.mk.injEq] at h2
    obtain ⟨rfl, rfl⟩ := h2
    refine ⟨c, F, env, _, _, g, h1, fun v F' H' g' s' r' => ?_⟩
    cases r'
    exact ⟨_, rfl, q F' H' g' s'⟩
  · cases h2
theorem jt_cmp {op : CmpOp} {r : R2} {o : D → D → Option Rs} (ho : OpR X (compareOp op) r) (h : OpOk X.K r o) (ha : JE X a fa) (hb : JE X b fb) (hm : behindInMarks op b = false) : JT X (.Compare a [op] [b] pos) (asT (eBin o fa fb)) :=
  (pt_cmpR ho ha hb hm).imp fun σ H Q w => by
    have z := asT_ok w
    exact bin_ok h z
end
end Ev
set_option Elab.async false
set_option linter.all false
set_option maxRecDepth 100000
set_option maxHeartbeats 1000000
/-! Ev4: operators on data. -/
namespace Ev
open PySem PySem.Spec PyProof.Rows L2

section
variable {K : PySem.W.Frag} {H : Hp}
mutual
theorem Rp.dp : ∀ {v : V} {d : D}, d.plain = true → Rp K H v d → Dp K H v d
  | _, _, _, .non => .non
  | _, _, _, .bl b => .bl b
  | _, _, _, .int i => .int i
  | _, _, _, .str x => .str x
  | _, _, p, .lst h a => .lst h.sq (RpA.dp (by simpa only [PyData.plain] using p) a)
  | _, _, p, .tup h a => .tup h.sq (RpA.dp (by simpa only [PyData.plain] using p) a)
  | _, _, p, .dK h a => by simp only [PyData.plain] at p; cases p
  | _, _, p, .dT _ h a => by simp only [PyData.plain] at p; cases p
theorem RpA.dp : ∀ {v : List V} {d : List D}, PyData.plainAll d = true → RpA K H v d → DpAll K H v d
  | _, _, _, .nil => .nil
  | _, _, p, .cons h a => by
    simp only [PyData.plainAll, Bool.and_eq_true] at p
    exact .cons (Rp.dp p.1 h) (RpA.dp p.2 a)
end
end
section
variable {K : PySem.W.Frag} {H F : Hp}
mutual
theorem Cst.dp : ∀ {v : V} {d : D}, Cst K v d → Dp K H v d
  | _, _, .non => .non
  | _, _, .bl b => .bl b
  | _, _, .int i => .int i
  | _, _, .str x => .str x
  | _, _, .tup h1 h2 h3 h4 h5 h6 => .tup (.inr ⟨_, _, _, h1, h2, h3, h4, h5⟩) (CstA.dp h6)
theorem CstA.dp : ∀ {v : List V} {d : List D}, CstA K v d → DpAll K H v d
  | _, _, .nil => .nil
  | _, _, .cons h a => .cons (Cst.dp h) (CstA.dp a)
end
/-- seen as data of the whole heap -/
theorem Obs.dp {v : V} {d : D} (s : Sub F H) (h : Obs K F H v d) (p : d.plain = true) : Dp K H v d := by
  cases h with
  | rp h => exact (h.sub s).dp p
  | ob h => exact (h.rp s).dp p
  | lk e h =>
    cases h with
    | lst r => exact Rp.dp p (.lst (.inl (.inl e)) (r.sub s))
    | dK r => simp only [PyData.plain] at p; cases p
end
section
variable {X : Cx} {pins : List (Addr × Obj)} {σ : L2.St} {H F : Hp} {s : Shared} {v : V} {u : Value} {d : D}
theorem _root_.L2.Dp.rds (I : Inv X pins σ H s) (h : Dp X.K H v d) (r : RelV v u) : ∃ as, Reads s.heap u d as := Dp.reads I d v u h r
theorem Rp.reads (I : Inv X pins σ H s) (h : Rp X.K H v d) (p : d.plain = true) (r : RelV v u) : ∃ as, Reads s.heap u d as := Dp.reads I d v u (h.dp p) r
theorem RpA.reads {vs : List V} {us : List Value} {ds : List D} (I : Inv X pins σ H s) (h : RpA X.K H vs ds) (p : PyData.plainAll ds = true) (r : Vals vs us) : ∃ as, ReadsAll s.heap us ds as := Dp.readsAll I ds vs us (h.dp p) r
/-- a list read: its exact object -/
theorem _root_.L2.Inv.lstR {l : Addr} {xs : List V} (I : Inv X pins σ H s) (hH : LR X.K H l xs) : xs.length ≤ sizeLine ∧ ∃ (its : List Value) (n : Nat), Vals xs its ∧ xs.length = its.length ∧ s.heap.get? l = some { cls := .type "list", data := .seq its.toArray n } := by
  rcases hH with hH | ⟨its, n, h1, h2, h3⟩
  · obtain ⟨z, its, n, r, e⟩ := hH.ok I.hok
    exact ⟨z, its, n, r, r.length, e⟩
  · exact ⟨by rw [h2.length]; exact h3, its, n, h2, h2.length, I.kIn _ _ h1⟩
end

/-! ### + - * // % ** << >> & | ^ -/
def opAdd : D → D → Option Rs
  | .int i, .int j => some (.shr (.int (i + j)))
  | .str x, .str y => if x.length + y.length ≤ sizeLine then some (.shr (.str (x ++ y))) else none
  | .list xs, .list ys => if xs.length + ys.length ≤ sizeLine then some (.new (.list (xs ++ ys))) else none
  | .tuple xs, .tuple ys => if xs.length + ys.length ≤ sizeLine ∧ xs ≠ [] ∧ ys ≠ [] then some (.shr (.tuple (xs ++ ys))) else none
  | _, _ => none
def opSub : D → D → Option Rs
  | .int i, .int j => some (.shr (.int (i - j)))
  | _, _ => none
def mulOk (i j : Int) : Bool := decide (i.natAbs < 2 ^ 64) || decide (j.natAbs < 2 ^ 64) || decide (i.natAbs.log2 + j.natAbs.log2 < 1000000)
def opMul : D → D → Option Rs
  | .int i, .int j => if mulOk i j then some (.shr (.int (i * j))) else none
  | .list xs, .int k => if -(2 ^ 63) ≤ k ∧ k < 2 ^ 63 ∧ xs.length * k.toNat ≤ sizeLine then some (.new (.list (List.replicate k.toNat xs).flatten)) else none
  | _, _ => none
def opDiv : D → D → Option Rs
  | .int i, .int j => if 0 < j then (if j.natAbs.log2 < 9000 then some (.shr (.int (i / j))) else none)
      else if j ≠ 0 ∧ j.natAbs < 1073741824 then some (.shr (.int (i.fdiv j))) else none
  | _, _ => none
def opMod : D → D → Option Rs
  | .int i, .int j => if 0 < j then some (.shr (.int (i % j))) else if j ≠ 0 then some (.shr (.int (i.fmod j))) else none
  | _, _ => none
def powOk (i j : Int) : Bool := decide (0 ≤ j) && decide (j ≤ 1000000) && decide (i.natAbs < 2 ^ 64)
def opPow : D → D → Option Rs
  | .int i, .int j => if powOk i j then some (.shr (.int (i ^ j.toNat))) else none
  | _, _ => none
def opShl : D → D → Option Rs
  | .int i, .int j => if powOk i j then some (.shr (.int (i * 2 ^ j.toNat))) else none
  | _, _ => none
def opShr : D → D → Option Rs
  | .int i, .int j => if 0 ≤ j then some (.shr (.int (i / 2 ^ j.toNat))) else none
  | _, _ => none
def opAnd : D → D → Option Rs
  | .int i, .int j => some (.shr (.int (Builtin.bitAnd i j)))
  | _, _ => none
def opOr : D → D → Option Rs
  | .int i, .int j => some (.shr (.int (Builtin.bitOr i j)))
  | _, _ => none
def opXor : D → D → Option Rs
  | .int i, .int j => some (.shr (.int (Builtin.bitXor i j)))
  | _, _ => none

def rCatR (K : PySem.W.Frag) : R2 := fun x y H Q => ∃ l b xs zs, x = .ref l ∧ y = .ref b ∧ LR K H l xs ∧ LR K H b zs ∧ xs.length + zs.length ≤ sizeLine ∧ ∀ p, H p = none → Q (.ref p) (upd H p (.lst (xs ++ zs)))
def rRepR (K : PySem.W.Frag) : R2 := fun x y H Q => ∃ l k xs, x = .ref l ∧ y = .int k ∧ LR K H l xs ∧ -(2 ^ 63) ≤ k ∧ k < 2 ^ 63 ∧ xs.length * k.toNat ≤ sizeLine ∧
  ∀ p, H p = none → Q (.ref p) (upd H p (.lst (List.replicate k.toNat xs).flatten))
def CMulA (i j : Int) : Prop := mulOk i j = true
theorem CMulA.ok {i j : Int} (h : CMulA i j) : IntMulOk i j := by
  unfold CMulA mulOk at h
  simp only [Bool.or_eq_true, decide_eq_true_eq] at h
  rcases h with (h | h) | h
  · exact CMul.ok (.inl ⟨by omega, by omega⟩)
  · exact CMul.ok (.inr ⟨by omega, by omega⟩)
  · exact CMulW.ok h
section
variable {X : Cx}
theorem op_catR : OpR X (binaryOp .Add) (rCatR X.K) := by
  intro pins s σ H x y v u Q I rx ry h
  obtain ⟨l, b, xs, zs, rfl, rfl, hH, hB, hz, q⟩ := h
  cases rx
  cases ry
  obtain ⟨z, its, n, r, hl, e⟩ := I.lstR hH
  obtain ⟨z2, its2, n2, r2, hl2, e2⟩ := I.lstR hB
  refine PySem.P.add_list e e2 ?_ (by rw [List.size_toArray, List.size_toArray]; omega)
  have ea : its.toArray ++ its2.toArray = (its ++ its2).toArray := by simp
  rw [ea]
  exact ⟨.ref _, _, I.lnew (t' := s.toks) (r.append r2) (by rw [List.length_append]; omega), rfl, q _ I.fresh⟩
theorem op_repR : OpR X (binaryOp .Mult) (rRepR X.K) := by
  intro pins s σ H x y v u Q I rx ry h
  obtain ⟨l, k, xs, rfl, rfl, hH, h1, h2, hz, q⟩ := h
  cases rx
  obtain ⟨t, rfl⟩ := ry
  obtain ⟨z, its, n, r, hl, e⟩ := I.lstR hH
  have hlen : its.toArray.size * k.toNat ≤ sizeLine := by rw [List.size_toArray, ← hl]; exact hz
  have hcap : ¬ its.toArray.size * k.toNat > (2 ^ 63 - 1) / 8 := by
    have : (sizeLine : Nat) ≤ (2 ^ 63 - 1) / 8 := by decide
    omega
  have hfit : ¬ (!Builtin.List.listFitsIndex k) = true := by
    rw [fitsIndex_both h1 h2]
    exact Bool.false_ne_true
  have hlong : ¬ Builtin.List.listTooLong (its.toArray.size * k.toNat) = true := by
    rw [notLongL hlen]
    exact Bool.false_ne_true
  have hnew : List.foldl (fun x1 x2 => x1 ++ x2) #[] (List.replicate (if its.toArray.isEmpty = true then 0 else k.toNat) its.toArray) = (List.replicate k.toNat its).flatten.toArray := by
    have f0 : ∀ m : Nat, List.foldl (fun x1 x2 => x1 ++ x2) #[] (List.replicate m its.toArray) = (List.replicate m its).flatten.toArray := fun m => by
      have := foldl_rep its m []
      rw [List.nil_append] at this
      exact this
    rw [f0]
    cases its with
    | nil => simp
    | cons a r' => rw [if_neg (by simp)]
  refine wpAny_binaryOp_repeat_ref (T := "list") (U := "int") (by decide) ⟨_, e, rfl⟩ (fun s' => typeIs_int s' k t) noFill_list_mul F.fills_int_mul F.slot_int_rmul repeat_list F.slot_int_index.lookup
    (call_meets F.slot_int_rmul (typeIs_int s k t) F.entry_int_rmul (F.args_int_rmul_2 _ _) (int___rmul___int_list k t l its.toArray n)
      ⟨e, rfl, ⟨_, e, rfl⟩, call_meets F.slot_list_mul ⟨_, e, rfl⟩ F.entry_list_mul (F.args_list_mul_2 _ _) (AutoListH.list___mul___list_int_3 l its.toArray n k t hfit hcap hlong) ⟨e, ?_⟩⟩)
  rw [hnew]
  exact ⟨.ref _, _, I.lnew (t' := s.toks) (r.rep k.toNat) (by rw [PyProof.Rows.lm_len_rep_flat, Nat.mul_comm]; exact hz), rfl, q _ I.fresh⟩
theorem op_mulA : OpR X (binaryOp .Mult) (rI CMulA fun i j => .int (i * j)) := opI fun _ _ _ _ _ _ _ hc q => mul_int q hc.ok
end
theorem RpA.rep {K : PySem.W.Frag} {F : Hp} {vs : List V} {ds : List D} (h : RpA K F vs ds) : ∀ k : Nat, RpA K F (List.replicate k vs).flatten (List.replicate k ds).flatten
  | 0 => by simp; exact .nil
  | k + 1 => by
    simp only [List.replicate_succ, List.flatten_cons]
    exact h.append (h.rep k)

abbrev rAdd3 (K : PySem.W.Frag) : R2 := fun x y H Q => rI0 (fun i j => .int (i + j)) x y H Q ∨ ((∃ i j, x = V.str i ∧ y = V.str j ∧ i.length + j.length ≤ sizeLine ∧ Q (.str (i ++ j)) H) ∨ (rCatR K x y H Q ∨ rCatT K x y H Q))
section
variable {K : PySem.W.Frag}
theorem shrOk {c : Ctx} {F H : Hp} {σ : L2.St} {env : Env} {v : V} {d : D} {Q : VK} (g : G K c F H σ env) (r : Rp K F v d) (q : ∀ v F' H', G K c F' H' σ env → Same F F' → RsOk K c F' H' σ env v (.shr d) → Q v H') : Q v H := q v F H g (Same.refl F) r
theorem ok_add : OpOk K (rAdd3 K) opAdd := by
  intro c F H σ env x y da db res g ox oy h Q q
  unfold opAdd at h
  split at h
  · cases h; cases ox.int; cases oy.int
    exact .inl ⟨_, _, rfl, rfl, shrOk g (.int _) q⟩
  · split at h
    · rename_i hl
      cases h; cases ox.str; cases oy.str
      exact .inr (.inl ⟨_, _, rfl, rfl, hl, shrOk g (.str _) q⟩)
    · cases h
  · split at h
    · rename_i hl
      cases h
      obtain ⟨a, xs, rfl, e1, r1⟩ := ox.list g.sub
      obtain ⟨b, ys, rfl, e2, r2⟩ := oy.list g.sub
      have l1 := r1.length
      have l2 := r2.length
      refine .inr (.inr (.inl ⟨a, b, xs, ys, rfl, rfl, e1, e2, by omega, fun p hp => ?_⟩))
      obtain ⟨g', rr⟩ := g.laidNew hp (.lst upd_same (r1.append r2))
      exact q _ _ _ g' (Same.refl F) rr
    · cases h
  · split at h
    · rename_i hl
      cases h
      obtain ⟨a, xs, rfl, e1, r1⟩ := ox.tupleR g.sub
      obtain ⟨b, ys, rfl, e2, r2⟩ := oy.tupleR g.sub
      have l1 := r1.length
      have l2 := r2.length
      have nx : xs ≠ [] := fun z => by subst z; exact hl.2.1 (List.eq_nil_of_length_eq_zero (by simpa using l1.symm))
      have ny : ys ≠ [] := fun z => by subst z; exact hl.2.2 (List.eq_nil_of_length_eq_zero (by simpa using l2.symm))
      refine .inr (.inr (.inr ⟨a, b, xs, ys, rfl, rfl, e1, e2, nx, by omega, fun z => absurd z ny, fun _ p hp => ?_⟩))
      obtain ⟨F2, g2, s2, rr⟩ := g.laidTup hp (r1.append r2)
      exact q _ _ _ g2 s2 rr
    · cases h
  · cases h
theorem ok_sub : OpOk K (rI0 fun i j => .int (i - j)) opSub := by
  intro c F H σ env x y da db res g ox oy h Q q
  unfold opSub at h
  split at h
  · cases h; cases ox.int; cases oy.int
    exact ⟨_, _, rfl, rfl, shrOk g (.int _) q⟩
  · cases h
abbrev rMul2 (K : PySem.W.Frag) : R2 := fun x y H Q => rI CMulA (fun i j => .int (i * j)) x y H Q ∨ rRepR K x y H Q
theorem ok_mul : OpOk K (rMul2 K) opMul := by
  intro c F H σ env x y da db res g ox oy h Q q
  unfold opMul at h
  split at h
  · split at h
    · rename_i hm
      cases h; cases ox.int; cases oy.int
      exact .inl ⟨_, _, rfl, rfl, hm, shrOk g (.int _) q⟩
    · cases h
  · split at h
    · rename_i hm
      cases h
      obtain ⟨a, xs, rfl, e1, r1⟩ := ox.list g.sub
      cases oy.int
      have l1 := r1.length
      refine .inr ⟨a, _, xs, rfl, rfl, e1, hm.1, hm.2.1, by rw [l1]; exact hm.2.2, fun p hp => ?_⟩
      obtain ⟨g', rr⟩ := g.laidNew hp (.lst upd_same (r1.rep _))
      exact q _ _ _ g' (Same.refl F) rr
    · cases h
  · cases h
abbrev rDiv2 : R2 := fun x y H Q => rI CDivW (fun i j => .int (i / j)) x y H Q ∨ rI CDivN (fun i j => .int (i.fdiv j)) x y H Q
theorem ok_div : OpOk K rDiv2 opDiv := by
  intro c F H σ env x y da db res g ox oy h Q q
  unfold opDiv at h
  split at h
  · cases ox.int; cases oy.int
    split at h
    · split at h
      · rename_i h1 h2
        cases h
        exact .inl ⟨_, _, rfl, rfl, ⟨h1, h2⟩, shrOk g (.int _) q⟩
      · cases h
    · split at h
      · rename_i h1 h2
        cases h
        exact .inr ⟨_, _, rfl, rfl, h2, shrOk g (.int _) q⟩
      · cases h
  · cases h
abbrev rMod2 : R2 := fun x y H Q => rI (fun _ j => 0 < j) (fun i j => .int (i % j)) x y H Q ∨ rI (fun _ j => j ≠ 0) (fun i j => .int (i.fmod j)) x y H Q
theorem ok_mod : OpOk K rMod2 opMod := by
  intro c F H σ env x y da db res g ox oy h Q q
  unfold opMod at h
  split at h
  · cases ox.int; cases oy.int
    split at h
    · rename_i h1
      cases h
      exact .inl ⟨_, _, rfl, rfl, h1, shrOk g (.int _) q⟩
    · split at h
      · rename_i h1 h2
        cases h
        exact .inr ⟨_, _, rfl, rfl, h2, shrOk g (.int _) q⟩
      · cases h
  · cases h
theorem powOk.ok {i j : Int} (h : powOk i j = true) : CPow i j := by
  unfold powOk at h
  simp only [Bool.and_eq_true, decide_eq_true_eq] at h
  exact ⟨h.1.1, h.1.2, h.2⟩
theorem ok_pow : OpOk K (rI CPow fun i j => .int (i ^ j.toNat)) opPow := by
  intro c F H σ env x y da db res g ox oy h Q q
  unfold opPow at h
  split at h
  · cases ox.int; cases oy.int
    split at h
    · rename_i h1
      cases h
      exact ⟨_, _, rfl, rfl, powOk.ok h1, shrOk g (.int _) q⟩
    · cases h
  · cases h
theorem ok_shl : OpOk K (rI CPow fun i j => .int (i * 2 ^ j.toNat)) opShl := by
  intro c F H σ env x y da db res g ox oy h Q q
  unfold opShl at h
  split at h
  · cases ox.int; cases oy.int
    split at h
    · rename_i h1
      cases h
      exact ⟨_, _, rfl, rfl, powOk.ok h1, shrOk g (.int _) q⟩
    · cases h
  · cases h
theorem ok_shr : OpOk K (rI (fun _ j => 0 ≤ j) fun i j => .int (i / 2 ^ j.toNat)) opShr := by
  intro c F H σ env x y da db res g ox oy h Q q
  unfold opShr at h
  split at h
  · cases ox.int; cases oy.int
    split at h
    · rename_i h1
      cases h
      exact ⟨_, _, rfl, rfl, h1, shrOk g (.int _) q⟩
    · cases h
  · cases h
theorem ok_and : OpOk K (rI0 fun i j => .int (Builtin.bitAnd i j)) opAnd := by
  intro c F H σ env x y da db res g ox oy h Q q
  unfold opAnd at h
  split at h
  · cases h; cases ox.int; cases oy.int
    exact ⟨_, _, rfl, rfl, shrOk g (.int _) q⟩
  · cases h
theorem ok_or : OpOk K (rI0 fun i j => .int (Builtin.bitOr i j)) opOr := by
  intro c F H σ env x y da db res g ox oy h Q q
  unfold opOr at h
  split at h
  · cases h; cases ox.int; cases oy.int
    exact ⟨_, _, rfl, rfl, shrOk g (.int _) q⟩
  · cases h
theorem ok_xor : OpOk K (rI0 fun i j => .int (Builtin.bitXor i j)) opXor := by
  intro c F H σ env x y da db res g ox oy h Q q
  unfold opXor at h
  split at h
  · cases h; cases ox.int; cases oy.int
    exact ⟨_, _, rfl, rfl, shrOk g (.int _) q⟩
  · cases h
end
section
variable {X : Cx} {a b : Expr} {fa fb : E} {pos : Pos}
theorem je_add (ha : JE X a fa) (hb : JE X b fb) : JE X (.BinOp a .Add b pos) (eBin opAdd fa fb) := je_bin (op_add.or (op_add_str.or (op_catR.or op_catT))) ok_add ha hb
theorem je_sub (ha : JE X a fa) (hb : JE X b fb) : JE X (.BinOp a .Sub b pos) (eBin opSub fa fb) := je_bin op_sub ok_sub ha hb
theorem je_mul (ha : JE X a fa) (hb : JE X b fb) : JE X (.BinOp a .Mult b pos) (eBin opMul fa fb) := je_bin (op_mulA.or op_repR) ok_mul ha hb
theorem je_div (ha : JE X a fa) (hb : JE X b fb) : JE X (.BinOp a .FloorDiv b pos) (eBin opDiv fa fb) := je_bin (op_fdivW.or op_fdivN) ok_div ha hb
theorem je_mod (ha : JE X a fa) (hb : JE X b fb) : JE X (.BinOp a .Mod b pos) (eBin opMod fa fb) := je_bin (op_mod.or op_modN) ok_mod ha hb
theorem je_pow (ha : JE X a fa) (hb : JE X b fb) : JE X (.BinOp a .Pow b pos) (eBin opPow fa fb) := je_bin op_pow ok_pow ha hb
theorem je_shl (ha : JE X a fa) (hb : JE X b fb) : JE X (.BinOp a .LShift b pos) (eBin opShl fa fb) := je_bin op_shl ok_shl ha hb
theorem je_shr (ha : JE X a fa) (hb : JE X b fb) : JE X (.BinOp a .RShift b pos) (eBin opShr fa fb) := je_bin op_shr ok_shr ha hb
theorem je_bitand (ha : JE X a fa) (hb : JE X b fb) : JE X (.BinOp a .BitAnd b pos) (eBin opAnd fa fb) := je_bin op_and ok_and ha hb
theorem je_bitor (ha : JE X a fa) (hb : JE X b fb) : JE X (.BinOp a .BitOr b pos) (eBin opOr fa fb) := je_bin op_or ok_or ha hb
theorem je_bitxor (ha : JE X a fa) (hb : JE X b fb) : JE X (.BinOp a .BitXor b pos) (eBin opXor fa fb) := je_bin op_xor ok_xor ha hb
end
end Ev
set_option Elab.async false
set_option linter.all false
set_option maxRecDepth 100000
set_option maxHeartbeats 1000000
/-! Ev5: comparisons, tests, truth. -/
namespace Ev
open PySem PySem.Spec PyProof.Rows L2

def Rm (X : Cx) : Prop := X.A.units + 150 < cLine

/-! ### == and != -/
def deep (d : D) : Bool := decide (d.depth ≤ 64)
def eqOk (a b : D) : Bool := a.plain && b.plain && (deep a || deep b)
def opEq : D → D → Option Rs := fun a b => if eqOk a b then some (.shr (.bool (PyData.eqv a b))) else none
def opNe : D → D → Option Rs := fun a b => if eqOk a b then some (.shr (.bool (!PyData.eqv a b))) else none
def rEqP (K : PySem.W.Frag) : R2 := fun x y H Q => ∃ d e, Dp K H x d ∧ Dp K H y e ∧ eqOk d e = true ∧ Q (.bl (PyData.eqv d e)) H
def rNeP (K : PySem.W.Frag) : R2 := fun x y H Q => ∃ d e, Dp K H x d ∧ Dp K H y e ∧ eqOk d e = true ∧ Q (.bl (!PyData.eqv d e)) H
theorem eqOk_un {a b : D} (h : eqOk a b = true) : a.plain = true ∧ b.plain = true ∧ min a.depth b.depth ≤ 64 := by
  unfold eqOk deep at h
  simp only [Bool.and_eq_true, Bool.or_eq_true, decide_eq_true_eq] at h
  exact ⟨h.1.1, h.1.2, by omega⟩
section
variable {X : Cx}
theorem op_eqP (hu : Rm X) : OpR X (compareOp .Eq) (rEqP X.K) := by
  intro pins s σ H x y v u Q I rx ry h
  obtain ⟨d, e, hd, he, ok, q⟩ := h
  obtain ⟨p1, p2, p3⟩ := eqOk_un ok
  obtain ⟨as, r1⟩ := hd.rds I rx
  obtain ⟨bs, r2⟩ := he.rds I ry
  exact SeqAt.eq_plain r1 r2 p1 p2 (by unfold Rm at hu; omega) ⟨.bl _, H, I, rfl, q⟩
theorem op_neP (hu : Rm X) : OpR X (compareOp .NotEq) (rNeP X.K) := by
  intro pins s σ H x y v u Q I rx ry h
  obtain ⟨d, e, hd, he, ok, q⟩ := h
  obtain ⟨p1, p2, p3⟩ := eqOk_un ok
  obtain ⟨as, r1⟩ := hd.rds I rx
  obtain ⟨bs, r2⟩ := he.rds I ry
  exact SeqAt.ne_plain r1 r2 p1 p2 (by unfold Rm at hu; omega) ⟨.bl _, H, I, rfl, q⟩
end
theorem ok_eq {K : PySem.W.Frag} : OpOk K (rEqP K) opEq := by
  intro c F H σ env x y da db res g ox oy h Q q
  unfold opEq at h
  split at h
  · rename_i ok
    cases h
    exact ⟨da, db, ox.dp g.sub (eqOk_un ok).1, oy.dp g.sub (eqOk_un ok).2.1, ok, shrOk g (.bl _) q⟩
  · cases h
theorem ok_ne {K : PySem.W.Frag} : OpOk K (rNeP K) opNe := by
  intro c F H σ env x y da db res g ox oy h Q q
  unfold opNe at h
  split at h
  · rename_i ok
    cases h
    exact ⟨da, db, ox.dp g.sub (eqOk_un ok).1, oy.dp g.sub (eqOk_un ok).2.1, ok, shrOk g (.bl _) q⟩
  · cases h

/-! ### < > <= >= -/
def isNone : D → Bool
  | .none => true
  | _ => false
def ltOk (a b : D) : Bool := PySem.W.alike a b && !isNone a && (deep a || deep b) && (a.plain && b.plain)
theorem ltOk_un {a b : D} (h : ltOk a b = true) : PySem.W.alike a b = true ∧ a ≠ .none ∧ min a.depth b.depth ≤ 64 ∧ a.plain = true ∧ b.plain = true := by
  unfold ltOk deep at h
  simp only [Bool.and_eq_true, Bool.or_eq_true, decide_eq_true_eq] at h
  refine ⟨h.1.1.1, fun e => ?_, by omega, h.2.1, h.2.2⟩
  rw [e] at h
  simp [isNone] at h
def opLt : D → D → Option Rs := fun a b => if ltOk a b then some (.shr (.bool (PySem.W.dataLt a b))) else none
def opGt : D → D → Option Rs := fun a b => if ltOk a b then some (.shr (.bool (PySem.W.dataLt b a))) else none
def opLe : D → D → Option Rs := fun a b => if ltOk a b then some (.shr (.bool (!PySem.W.dataLt b a))) else none
def opGe : D → D → Option Rs := fun a b => if ltOk a b then some (.shr (.bool (!PySem.W.dataLt a b))) else none

def rCmpP (K : PySem.W.Frag) (k : D → D → Bool) : R2 := fun x y H Q => ∃ d e, Dp K H x d ∧ Dp K H y e ∧ ltOk d e = true ∧ Q (.bl (k d e)) H
section
variable {X : Cx}
theorem op_ltP (hu : Rm X) : OpR X (compareOp .Lt) (rCmpP X.K fun a b => PySem.W.dataLt a b) := by
  intro pins s σ H x y v u Q I rx ry h
  obtain ⟨d, e, hd, he, ok, q⟩ := h
  obtain ⟨p0, p1, p2, p3, p4⟩ := ltOk_un ok
  obtain ⟨as, r1⟩ := hd.rds I rx
  obtain ⟨bs, r2⟩ := he.rds I ry
  exact PySem.W.rcLt_alike d e X.A s v u as bs r1 r2 p0 p1 (by unfold Rm at hu; omega) _ _ _ _ ⟨.bl _, H, I, rfl, q⟩
theorem op_gtP (hu : Rm X) : OpR X (compareOp .Gt) (rCmpP X.K fun a b => PySem.W.dataLt b a) := by
  intro pins s σ H x y v u Q I rx ry h
  obtain ⟨d, e, hd, he, ok, q⟩ := h
  obtain ⟨p0, p1, p2, p3, p4⟩ := ltOk_un ok
  obtain ⟨as, r1⟩ := hd.rds I rx
  obtain ⟨bs, r2⟩ := he.rds I ry
  exact PySem.W.rcGt_alike d e X.A s v u as bs r1 r2 p0 p1 (by unfold Rm at hu; omega) _ _ _ _ ⟨.bl _, H, I, rfl, q⟩
theorem op_leP (hu : Rm X) : OpR X (compareOp .LtE) (rCmpP X.K fun a b => !PySem.W.dataLt b a) := by
  intro pins s σ H x y v u Q I rx ry h
  obtain ⟨d, e, hd, he, ok, q⟩ := h
  obtain ⟨p0, p1, p2, p3, p4⟩ := ltOk_un ok
  obtain ⟨as, r1⟩ := hd.rds I rx
  obtain ⟨bs, r2⟩ := he.rds I ry
  exact PySem.W.rcLe_alike d e X.A s v u as bs r1 r2 p0 p1 (by unfold Rm at hu; omega) _ _ _ _ ⟨.bl _, H, I, rfl, q⟩
theorem op_geP (hu : Rm X) : OpR X (compareOp .GtE) (rCmpP X.K fun a b => !PySem.W.dataLt a b) := by
  intro pins s σ H x y v u Q I rx ry h
  obtain ⟨d, e, hd, he, ok, q⟩ := h
  obtain ⟨p0, p1, p2, p3, p4⟩ := ltOk_un ok
  obtain ⟨as, r1⟩ := hd.rds I rx
  obtain ⟨bs, r2⟩ := he.rds I ry
  exact PySem.W.rcGe_alike d e X.A s v u as bs r1 r2 p0 p1 (by unfold Rm at hu; omega) _ _ _ _ ⟨.bl _, H, I, rfl, q⟩
end
theorem ok_cmp {K : PySem.W.Frag} {k : D → D → Bool} {o : D → D → Option Rs} (ho : ∀ a b, o a b = if ltOk a b then some (.shr (.bool (k a b))) else none) : OpOk K (rCmpP K k) o := by
  intro c F H σ env x y da db res g ox oy h Q q
  rw [ho] at h
  split at h
  · rename_i ok
    cases h
    exact ⟨da, db, ox.dp g.sub (ltOk_un ok).2.2.2.1, oy.dp g.sub (ltOk_un ok).2.2.2.2, ok, shrOk g (.bl _) q⟩
  · cases h

/-! ### in, not in (lists, tuples, texts) -/
def inDat (d : D) (ds : List D) : Bool := ds.any fun y => PyData.eqv y d
def inOk (d : D) (ds : List D) : Bool := d.plain && PyData.plainAll ds && (deep d || decide (PyData.depthAll ds ≤ 64))
theorem inOk_un {d : D} {ds : List D} (h : inOk d ds = true) : d.plain = true ∧ PyData.plainAll ds = true ∧ min (PyData.depthAll ds) d.depth ≤ 64 := by
  unfold inOk deep at h
  simp only [Bool.and_eq_true, Bool.or_eq_true, decide_eq_true_eq] at h
  exact ⟨h.1.1, h.1.2, by omega⟩
def strIn (x y : Str) : Bool := !(Builtin.Str.occurrences y x 0 y.length 1).isEmpty
def opIn : D → D → Option Rs
  | d, .list ds => if inOk d ds then some (.shr (.bool (inDat d ds))) else none
  | d, .tuple ds => if inOk d ds then some (.shr (.bool (inDat d ds))) else none
  | .str x, .str y => some (.shr (.bool (strIn x y)))
  | _, _ => none
def opNin : D → D → Option Rs
  | d, .list ds => if inOk d ds then some (.shr (.bool (!inDat d ds))) else none
  | d, .tuple ds => if inOk d ds then some (.shr (.bool (!inDat d ds))) else none
  | .str x, .str y => some (.shr (.bool (!strIn x y)))
  | _, _ => none
def rInP (K : PySem.W.Frag) (neg : Bool) : R2 := fun x y H Q => ∃ d e ds, Dp K H x d ∧ Dp K H y e ∧ (e = .list ds ∨ e = .tuple ds) ∧ inOk d ds = true ∧ Q (.bl (if neg then !inDat d ds else inDat d ds)) H
section
variable {X : Cx}
theorem op_inP (hu : Rm X) : OpR X (compareOp .In) (rInP X.K false) := by
  intro pins s σ H x y v u Q I rx ry h
  obtain ⟨d, e, ds, hd, he, hl, ok, q⟩ := h
  obtain ⟨p1, p2, p3⟩ := inOk_un ok
  obtain ⟨as, r1⟩ := hd.rds I rx
  have fin : EP X pins σ Q (.bool (inDat d ds)) s := ⟨.bl _, H, I, rfl, q⟩
  rcases hl with rfl | rfl
  · obtain ⟨bs, r2⟩ := he.rds I ry
    exact SeqAt.in_list_data r2 r1 p2 p1 (by unfold Rm at hu; omega) fin
  · obtain ⟨bs, r2⟩ := he.rds I ry
    exact SeqAt.in_tuple_data r2 r1 p2 p1 (by unfold Rm at hu; omega) fin
theorem op_ninP (hu : Rm X) : OpR X (compareOp .NotIn) (rInP X.K true) := by
  intro pins s σ H x y v u Q I rx ry h
  obtain ⟨d, e, ds, hd, he, hl, ok, q⟩ := h
  obtain ⟨p1, p2, p3⟩ := inOk_un ok
  obtain ⟨as, r1⟩ := hd.rds I rx
  have fin : EP X pins σ Q (.bool (!inDat d ds)) s := ⟨.bl _, H, I, rfl, q⟩
  rcases hl with rfl | rfl
  · obtain ⟨bs, r2⟩ := he.rds I ry
    exact SeqAt.notIn_list_data r2 r1 p2 p1 (by unfold Rm at hu; omega) fin
  · obtain ⟨bs, r2⟩ := he.rds I ry
    exact SeqAt.notIn_tuple_data r2 r1 p2 p1 (by unfold Rm at hu; omega) fin
end
abbrev rIn2 (K : PySem.W.Frag) : R2 := fun x y H Q => rInP K false x y H Q ∨ ∃ i j, x = V.str i ∧ y = V.str j ∧ Q (.bl (!(Builtin.Str.occurrences j i 0 j.length 1).isEmpty)) H
abbrev rNin2 (K : PySem.W.Frag) : R2 := fun x y H Q => rInP K true x y H Q ∨ ∃ i j, x = V.str i ∧ y = V.str j ∧ Q (.bl (!(!(Builtin.Str.occurrences j i 0 j.length 1).isEmpty))) H
theorem ok_in {K : PySem.W.Frag} : OpOk K (rIn2 K) opIn := by
  intro c F H σ env x y da db res g ox oy h Q q
  unfold opIn at h
  split at h
  · split at h
    · rename_i ok
      cases h
      exact .inl ⟨_, _, _, ox.dp g.sub (inOk_un ok).1, oy.dp g.sub (by simpa only [PyData.plain] using (inOk_un ok).2.1), .inl rfl, ok, shrOk g (.bl _) q⟩
    · cases h
  · split at h
    · rename_i ok
      cases h
      exact .inl ⟨_, _, _, ox.dp g.sub (inOk_un ok).1, oy.dp g.sub (by simpa only [PyData.plain] using (inOk_un ok).2.1), .inr rfl, ok, shrOk g (.bl _) q⟩
    · cases h
  · cases h; cases ox.str; cases oy.str
    exact .inr ⟨_, _, rfl, rfl, shrOk g (.bl _) q⟩
  · cases h
theorem ok_nin {K : PySem.W.Frag} : OpOk K (rNin2 K) opNin := by
  intro c F H σ env x y da db res g ox oy h Q q
  unfold opNin at h
  split at h
  · split at h
    · rename_i ok
      cases h
      exact .inl ⟨_, _, _, ox.dp g.sub (inOk_un ok).1, oy.dp g.sub (by simpa only [PyData.plain] using (inOk_un ok).2.1), .inl rfl, ok, shrOk g (.bl _) q⟩
    · cases h
  · split at h
    · rename_i ok
      cases h
      exact .inl ⟨_, _, _, ox.dp g.sub (inOk_un ok).1, oy.dp g.sub (by simpa only [PyData.plain] using (inOk_un ok).2.1), .inr rfl, ok, shrOk g (.bl _) q⟩
    · cases h
  · cases h; cases ox.str; cases oy.str
    exact .inr ⟨_, _, rfl, rfl, shrOk g (.bl _) q⟩
  · cases h

/-! ### is None, is True -/
def isBool (k : Bool) : D → Bool
  | .bool b => b == k
  | _ => false
def opIs : D → D → Option Rs
  | d, .none => some (.shr (.bool (isNone d)))
  | d, .bool k => some (.shr (.bool (isBool k d)))
  | _, _ => none
def opIsn : D → D → Option Rs
  | d, .none => some (.shr (.bool (!isNone d)))
  | d, .bool k => some (.shr (.bool (!isBool k d)))
  | _, _ => none
def rIsP (neg : Bool) : R2 := fun x y H Q => (y = .non ∨ ∃ k, y = .bl k) ∧ Q (.bl (if neg then !decide (x = y) else decide (x = y))) H
section
variable {X : Cx}
theorem is_val {M : Model} {A : Around} {E : Value → Shared → Prop} {s : Shared} {x y : V} {v u : Value} (rx : RelV x v) (ry : RelV y u) (hy : y = .non ∨ ∃ k, y = .bl k) {Q : Bool → Shared → Prop} (q : Q (decide (x = y)) s) : wpAny M A (isSame v u) Q E s := by
  rcases hy with rfl | ⟨k, rfl⟩
  · cases ry
    cases x with
    | non => cases rx; have q : Q true s := by simpa using q
             exact wpAny_pure q
    | bl _ => cases rx; have q : Q false s := by simpa using q
              exact wpAny_pure q
    | int _ => obtain ⟨t, rfl⟩ := rx; have q : Q false s := by simpa using q
               exact wpAny_pure q
    | str _ => obtain ⟨t, rfl⟩ := rx; have q : Q false s := by simpa using q
               exact wpAny_pure q
    | byt _ => obtain ⟨t, rfl⟩ := rx; have q : Q false s := by simpa using q
               exact wpAny_pure q
    | flt _ => obtain ⟨t, rfl⟩ := rx; have q : Q false s := by simpa using q
               exact wpAny_pure q
    | ref _ => cases rx; have q : Q false s := by simpa using q
               exact wpAny_pure q
    | ty _ => cases rx; have q : Q false s := by simpa using q
              exact wpAny_pure q
  · cases ry
    cases x with
    | non => cases rx; have q : Q false s := by simpa using q
             exact wpAny_pure q
    | bl b => cases rx; cases b <;> cases k <;> exact wpAny_pure q
    | int _ => obtain ⟨t, rfl⟩ := rx; have q : Q false s := by simpa using q
               exact wpAny_pure q
    | str _ => obtain ⟨t, rfl⟩ := rx; have q : Q false s := by simpa using q
               exact wpAny_pure q
    | byt _ => obtain ⟨t, rfl⟩ := rx; have q : Q false s := by simpa using q
               exact wpAny_pure q
    | flt _ => obtain ⟨t, rfl⟩ := rx; have q : Q false s := by simpa using q
               exact wpAny_pure q
    | ref _ => cases rx; have q : Q false s := by simpa using q
               exact wpAny_pure q
    | ty _ => cases rx; have q : Q false s := by simpa using q
              exact wpAny_pure q
theorem op_isP : OpR X (compareOp .Is) (rIsP false) := by
  intro pins s σ H x y v u Q I rx ry h
  obtain ⟨hy, q⟩ := h
  exact wpAny_bind (is_val rx ry hy (wpAny_pure ⟨.bl _, H, I, rfl, q⟩))
theorem op_isnP : OpR X (compareOp .IsNot) (rIsP true) := by
  intro pins s σ H x y v u Q I rx ry h
  obtain ⟨hy, q⟩ := h
  exact wpAny_bind (is_val rx ry hy (wpAny_pure ⟨.bl _, H, I, rfl, q⟩))
end
theorem isDat {K : PySem.W.Frag} {F H : Hp} {x y : V} {d e : D} (ox : Obs K F H x d) (oy : Obs K F H y e) (r : Bool) (h : (e = .none ∧ r = isNone d) ∨ ∃ k, e = .bool k ∧ r = isBool k d) :
    (y = .non ∨ ∃ k, y = .bl k) ∧ decide (x = y) = r := by
  rcases h with ⟨rfl, rfl⟩ | ⟨k, rfl, rfl⟩
  · cases oy.non
    refine ⟨.inl rfl, ?_⟩
    cases ox with
    | rp h => cases h <;> rfl
    | ob h => cases h <;> rfl
    | lk e h => cases h <;> rfl
  · cases oy.bool
    refine ⟨.inr ⟨k, rfl⟩, ?_⟩
    cases ox with
    | rp h => cases h <;> first | rfl | (rename_i b; cases b <;> cases k <;> rfl)
    | ob h => cases h <;> rfl
    | lk e h => cases h <;> rfl
theorem ok_is {K : PySem.W.Frag} : OpOk K (rIsP false) opIs := by
  intro c F H σ env x y da db res g ox oy h Q q
  unfold opIs at h
  split at h
  · cases h
    obtain ⟨h1, h2⟩ := isDat ox oy _ (.inl ⟨rfl, rfl⟩)
    exact ⟨h1, by rw [h2]; exact shrOk g (.bl _) q⟩
  · cases h
    obtain ⟨h1, h2⟩ := isDat ox oy _ (.inr ⟨_, rfl, rfl⟩)
    exact ⟨h1, by rw [h2]; exact shrOk g (.bl _) q⟩
  · cases h
theorem ok_isn {K : PySem.W.Frag} : OpOk K (rIsP true) opIsn := by
  intro c F H σ env x y da db res g ox oy h Q q
  unfold opIsn at h
  split at h
  · cases h
    obtain ⟨h1, h2⟩ := isDat ox oy _ (.inl ⟨rfl, rfl⟩)
    exact ⟨h1, by rw [h2]; exact shrOk g (.bl _) q⟩
  · cases h
    obtain ⟨h1, h2⟩ := isDat ox oy _ (.inr ⟨_, rfl, rfl⟩)
    exact ⟨h1, by rw [h2]; exact shrOk g (.bl _) q⟩
  · cases h

/-! ### the comparisons as rules: a value, a test -/
/-- operator, its relation, its evaluator -/
structure CmpR (X : Cx) (op : CmpOp) (o : D → D → Option Rs) : Prop where
  ex : ∃ r, OpR X (compareOp op) r ∧ OpOk X.K r o
section
variable {X : Cx}
theorem cr_eq (hu : Rm X) : CmpR X .Eq opEq := ⟨_, op_eqP hu, ok_eq⟩
theorem cr_ne (hu : Rm X) : CmpR X .NotEq opNe := ⟨_, op_neP hu, ok_ne⟩
theorem cr_lt (hu : Rm X) : CmpR X .Lt opLt := ⟨_, op_ltP hu, ok_cmp fun _ _ => rfl⟩
theorem cr_gt (hu : Rm X) : CmpR X .Gt opGt := ⟨_, op_gtP hu, ok_cmp fun _ _ => rfl⟩
theorem cr_le (hu : Rm X) : CmpR X .LtE opLe := ⟨_, op_leP hu, ok_cmp fun _ _ => rfl⟩
theorem cr_ge (hu : Rm X) : CmpR X .GtE opGe := ⟨_, op_geP hu, ok_cmp fun _ _ => rfl⟩
theorem cr_is : CmpR X .Is opIs := ⟨_, op_isP, ok_is⟩
theorem cr_isn : CmpR X .IsNot opIsn := ⟨_, op_isnP, ok_isn⟩
theorem cr_in (hu : Rm X) : CmpR X .In opIn := ⟨_, (op_inP hu).or op_in_str, ok_in⟩
theorem cr_nin (hu : Rm X) : CmpR X .NotIn opNin := ⟨_, (op_ninP hu).or op_notin_str, ok_nin⟩
variable {a b : Expr} {fa fb : E} {pos : Pos} {op : CmpOp} {o : D → D → Option Rs}
theorem je_cp (h : CmpR X op o) (ha : JE X a fa) (hb : JE X b fb) (hm : behindInMarks op b = false := by rfl) : JE X (.Compare a [op] [b] pos) (eBin o fa fb) := by
  obtain ⟨r, h1, h2⟩ := h.ex
  exact je_cmp h1 h2 ha hb hm
theorem jt_cp (h : CmpR X op o) (ha : JE X a fa) (hb : JE X b fb) (hm : behindInMarks op b = false := by rfl) : JT X (.Compare a [op] [b] pos) (asT (eBin o fa fb)) := by
  obtain ⟨r, h1, h2⟩ := h.ex
  exact jt_cmp h1 h2 ha hb hm
end
end Ev
set_option Elab.async false
set_option linter.all false
set_option maxRecDepth 100000
set_option maxHeartbeats 1000000
/-! Ev6: truth, and, or, not, if-expressions, chains, subscripts, slices, displays. -/
namespace Ev
open PySem PySem.Spec PyProof.Rows L2

/-! ### truth -/
def dTru : D → Option Bool
  | .none => some false
  | .bool b => some b
  | .int i => some (i != 0)
  | .str x => if x.length ≤ sizeLine then some ((x.length : Int) != 0) else none
  | .list xs => some (!xs.isEmpty)
  | .tuple xs => some (!xs.isEmpty)
  | .dict _ => none
theorem RpA.isEmpty {K : PySem.W.Frag} {F : Hp} {vs : List V} {ds : List D} (h : RpA K F vs ds) : vs.isEmpty = ds.isEmpty := by cases h <;> rfl
theorem tru {K : PySem.W.Frag} {F H : Hp} {v : V} {d : D} {b : Bool} (s : Sub F H) (o : Obs K F H v d) (h : dTru d = some b) : TruV K v H b := by
  cases d with
  | none => cases o.non; cases h; rfl
  | bool b => cases o.bool; cases h; rfl
  | int i => cases o.int; cases h; rfl
  | str x =>
    cases o.str
    simp only [dTru] at h
    split at h
    · rename_i hl; cases h; exact ⟨hl, rfl⟩
    · cases h
  | list xs =>
    obtain ⟨a, vs, rfl, e, r⟩ := o.list s
    cases h
    exact .inl ⟨vs, e.sq, by rw [r.isEmpty]⟩
  | tuple xs =>
    obtain ⟨a, vs, rfl, e, r⟩ := o.tuple s
    cases h
    refine .inr (.inl ⟨vs, e, ?_⟩)
    rcases r with r | r
    · rw [r.isEmpty]
    · cases r <;> rfl
  | dict kvs => cases h

/-- a value's truth -/
def tTru (f : E) : T := fun e => do
  let (r, e1) ← f e
  let d ← look r e1
  let b ← dTru d
  pure (b, e1)
def eBool (t : T) : E := fun e => do
  let (b, e1) ← t e
  pure (.shr (.bool b), e1)
def tNot' (t : T) : T := fun e => do
  let (b, e1) ← t e
  pure (!b, e1)
def tAnd' (s t : T) : T := fun e => do
  let (b, e1) ← s e
  if b then t e1 else pure (false, e1)
def tOr' (s t : T) : T := fun e => do
  let (b, e1) ← s e
  if b then pure (true, e1) else t e1
def eNot (f : E) : E := eBool (tNot' (tTru f))
def eAnd (f g : E) : E := fun e => do
  let (r, e1) ← f e
  let d ← look r e1
  let b ← dTru d
  if b then g e1 else pure (r, e1)
def eOr (f g : E) : E := fun e => do
  let (r, e1) ← f e
  let d ← look r e1
  let b ← dTru d
  if b then pure (r, e1) else g e1
def eIf (t : T) (f g : E) : E := fun e => do
  let (b, e1) ← t e
  if b then f e1 else g e1
def eNeg (f : E) : E := fun e => do
  let (r, e1) ← f e
  match look r e1 with
  | some (.int i) => pure (.shr (.int (-i)), e1)
  | _ => none

section
variable {X : Cx} {a b c : Expr} {fa fb fc : E} {ta tb tc : T} {pos : Pos} {rest : List Expr}
theorem jt_tru (ha : JE X a fa) (he : ∀ whole, isTrue a X.env whole = (do let v ← whole; standAt a.pos; holding [v] (truthy v)) := by intro _; rfl) : JT X a (tTru fa) :=
  (pt_truth ha he).imp fun σ H Q w => by
    obtain ⟨c, F, env, b, env', g, hf, q⟩ := w
    simp only [tTru, bind, Option.bind_eq_some_iff, pure, Option.some.injEq] at hf
    obtain ⟨⟨r, e1⟩, h1, d, h2, b', h3, e⟩ := hf
    cases e
    exact ⟨c, F, env, r, e1, g, h1, fun v F' H' g' s' r' => ⟨_, tru g'.sub (look_ok g' r' h2) h3, q F' H' g' s'⟩⟩
theorem je_not (ha : JE X a fa) : JE X (.UnaryOp .Not a pos) (eNot fa) := (pe_notT ha).imp fun σ H Q w => by
  obtain ⟨c, F, env, r0, env', g, hf, q⟩ := w
  simp only [eNot, eBool, tNot', tTru, bind, Option.bind_eq_some_iff, pure, Option.some.injEq] at hf
  obtain ⟨⟨b, e0⟩, ⟨⟨b1, e2⟩, ⟨⟨r, e1⟩, h1, d, h2, b', h3, e⟩, e'⟩, e''⟩ := hf
  cases e; cases e'; cases e''
  exact ⟨c, F, env, r, _, g, h1, fun v F' H' g' s' r' => ⟨_, tru g'.sub (look_ok g' r' h2) h3, q _ F' H' g' s' (.bl _)⟩⟩
theorem jt_not (ha : JT X a ta) : JT X (.UnaryOp .Not a pos) (tNot' ta) := (pt_not ha).imp fun σ H Q w => by
  obtain ⟨c, F, env, b, env', g, hf, q⟩ := w
  simp only [tNot', bind, Option.bind_eq_some_iff, pure, Option.some.injEq] at hf
  obtain ⟨⟨b', e1⟩, h1, e⟩ := hf
  cases e
  exact ⟨c, F, env, b', e1, g, h1, q⟩
abbrev JW (X : Cx) (e : Expr) (f : T) : Prop := PW X e (tT X.K f)
theorem jw_and1 (ha : JT X a ta) : JW X (.BoolOp .And [a] pos) ta := pw_and1 ha
theorem jw_or1 (ha : JT X a ta) : JW X (.BoolOp .Or [a] pos) ta := pw_or1 ha
theorem _root_.L2.PW.imp {e : Expr} {t t' : TT} (h : PW X e t) (i : ∀ σ H Q, t' σ H Q → t σ H Q) : PW X e t' := ⟨fun w pins s σ H Q I hw => h.run w pins s σ H Q I (i σ H Q hw)⟩
theorem jw_and (ha : JT X a ta) (hb : JW X (.BoolOp .And (b :: rest) pos) tb) : JW X (.BoolOp .And (a :: b :: rest) pos) (tAnd' ta tb) := (pw_and ha hb).imp fun σ H Q w => by
  obtain ⟨c, F, env, b, env', g, hf, q⟩ := w
  simp only [tAnd', bind, Option.bind_eq_some_iff] at hf
  obtain ⟨⟨b', e1⟩, h1, h2⟩ := hf
  refine ⟨c, F, env, b', e1, g, h1, fun F' H' g' s' => ?_⟩
  cases b' with
  | true => exact iteT ⟨c, F', e1, b, env', g', h2, fun F2 H2 g2 s2 => q F2 H2 g2 (s'.trans s2)⟩
  | false => cases h2; exact iteF (q F' H' g' s')
theorem jw_or (ha : JT X a ta) (hb : JW X (.BoolOp .Or (b :: rest) pos) tb) : JW X (.BoolOp .Or (a :: b :: rest) pos) (tOr' ta tb) := (pw_or ha hb).imp fun σ H Q w => by
  obtain ⟨c, F, env, b, env', g, hf, q⟩ := w
  simp only [tOr', bind, Option.bind_eq_some_iff] at hf
  obtain ⟨⟨b', e1⟩, h1, h2⟩ := hf
  refine ⟨c, F, env, b', e1, g, h1, fun F' H' g' s' => ?_⟩
  cases b' with
  | true => cases h2; exact iteT (q F' H' g' s')
  | false => exact iteF ⟨c, F', e1, b, env', g', h2, fun F2 H2 g2 s2 => q F2 H2 g2 (s'.trans s2)⟩
theorem jt_w (h : JW X a ta) : JT X a ta := h.pt
theorem je_one {op} (ha : JE X a fa) : JE X (.BoolOp op [a] pos) fa := pe_one ha
theorem je_and (ha : JE X a fa) (hb : JE X (.BoolOp .And (b :: rest) pos) fb) : JE X (.BoolOp .And (a :: b :: rest) pos) (eAnd fa fb) := (pe_andT ha hb).imp fun σ H Q w => by
  obtain ⟨c, F, env, r, env', g, hf, q⟩ := w
  simp only [eAnd, bind, Option.bind_eq_some_iff] at hf
  obtain ⟨⟨r', e1⟩, h1, d, h2, k, h3, h4⟩ := hf
  refine ⟨c, F, env, r', e1, g, h1, fun v F' H' g' s' rr => ⟨k, tru g'.sub (look_ok g' rr h2) h3, ?_⟩⟩
  cases k with
  | true => exact iteT ⟨c, F', e1, r, env', g', h4, fun v F2 H2 g2 s2 => q v F2 H2 g2 (s'.trans s2)⟩
  | false => cases h4; exact iteF (q v F' H' g' s' rr)
theorem je_or (ha : JE X a fa) (hb : JE X (.BoolOp .Or (b :: rest) pos) fb) : JE X (.BoolOp .Or (a :: b :: rest) pos) (eOr fa fb) := (pe_orT ha hb).imp fun σ H Q w => by
  obtain ⟨c, F, env, r, env', g, hf, q⟩ := w
  simp only [eOr, bind, Option.bind_eq_some_iff] at hf
  obtain ⟨⟨r', e1⟩, h1, d, h2, k, h3, h4⟩ := hf
  refine ⟨c, F, env, r', e1, g, h1, fun v F' H' g' s' rr => ⟨k, tru g'.sub (look_ok g' rr h2) h3, ?_⟩⟩
  cases k with
  | false => exact iteF ⟨c, F', e1, r, env', g', h4, fun v F2 H2 g2 s2 => q v F2 H2 g2 (s'.trans s2)⟩
  | true => cases h4; exact iteT (q v F' H' g' s' rr)
theorem je_if (hc : JT X c tc) (ha : JE X a fa) (hb : JE X b fb) : JE X (.IfExp c a b pos) (eIf tc fa fb) := (pe_ifExp hc ha hb).imp fun σ H Q w => by
  obtain ⟨c, F, env, r, env', g, hf, q⟩ := w
  simp only [eIf, bind, Option.bind_eq_some_iff] at hf
  obtain ⟨⟨k, e1⟩, h1, h4⟩ := hf
  refine ⟨c, F, env, k, e1, g, h1, fun F' H' g' s' => ?_⟩
  cases k with
  | true => exact iteT ⟨c, F', e1, r, env', g', h4, fun v F2 H2 g2 s2 => q v F2 H2 g2 (s'.trans s2)⟩
  | false => exact iteF ⟨c, F', e1, r, env', g', h4, fun v F2 H2 g2 s2 => q v F2 H2 g2 (s'.trans s2)⟩
theorem je_neg (ha : JE X a fa) : JE X (.UnaryOp .USub a pos) (eNeg fa) := (pe_un un_neg ha).imp fun σ H Q w => by
  obtain ⟨c, F, env, r, env', g, hf, q⟩ := w
  simp only [eNeg, bind, Option.bind_eq_some_iff] at hf
  obtain ⟨⟨r', e1⟩, h1, h2⟩ := hf
  split at h2
  · rename_i i hl
    cases h2
    refine ⟨c, F, env, r', _, g, h1, fun v F' H' g' s' rr => ?_⟩
    cases (look_ok g' rr hl).int
    exact ⟨i, rfl, q _ F' H' g' s' (.int _)⟩
  · cases h2

/-! ### a < b < c, a < b < c < d -/
def eCh (o o' : D → D → Option Rs) (fa fb fc : E) : E := fun e => do
  let (ra, e1) ← fa e
  let (rb, e2) ← fb e1
  let da ← look (settle ra) e2
  let db ← look rb e2
  match o da db with
  | some (.shr (.bool true)) => do
    let (rc, e3) ← fc e2
    let db' ← look (settle rb) e3
    let dc ← look rc e3
    let r ← o' db' dc
    pure (r, e3)
  | some (.shr (.bool false)) => pure (.shr (.bool false), e2)
  | _ => none
theorem ch_ok {r r' : R2} {o o' : D → D → Option Rs} (h2 : OpOk X.K r o) (h2' : OpOk X.K r' o') {σ : L2.St} {H : Hp} {Q : VK} (w : tE X.K (eCh o o' fa fb fc) σ H Q) : tChain r r' (tE X.K fa) (tE X.K fb) (tE X.K fc) σ H Q := by
  obtain ⟨c, F, env, res, env', g, hf, q⟩ := w
  simp only [eCh, bind, Option.bind_eq_some_iff] at hf
  obtain ⟨⟨ra, e1⟩, ha, ⟨rb, e2⟩, hb, da, hda, db, hdb, hr⟩ := hf
  refine ⟨c, F, env, ra, e1, g, ha, fun x F1 H1 g1 s1 r1 => ?_⟩
  obtain ⟨F2, g2, s2, r2⟩ := settle_ok g1 r1
  refine ⟨c, F2, e1, rb, e2, g2, hb, fun y F3 H3 g3 s3 r3 => ?_⟩
  obtain ⟨F3', g3', s3', r3'⟩ := settle_ok g3 r3
  have ob := look_ok g3 r3 hdb
  have ob' : Obs X.K F3' H3 y db := by
    cases rb with
    | shr d => exact look_ok (r := .shr d) g3' r3' hdb
    | new d => exact look_ok (r := .shr d) g3' r3' hdb
    | var i => exact look_ok (r := .var i) g3' r3' hdb
    | cst d => exact look_ok (r := .cst d) g3' r3' hdb
  have oa : Obs X.K F3' H3 x da := look_ok g3' (r2.keep (settle_settled ra) (s3.trans s3')) hda
  split at hr
  · rename_i ho
    simp only [Option.bind_eq_some_iff, pure, Option.some.injEq] at hr
    obtain ⟨⟨rc, e3⟩, hc, db', hdb', dc, hdc, r0, hr0, e⟩ := hr
    cases e
    refine h2 c F3' H3 σ e2 x y da db _ g3' oa ob' ho _ fun v F4 H4 g4 s4 r4 => ?_
    cases r4
    refine ⟨true, rfl, iteT ?_⟩
    refine ⟨c, F4, e2, rc, e3, g4, hc, fun z F5 H5 g5 s5 r5 => ?_⟩
    exact h2' c F5 H5 σ e3 y z db' dc _ g5 (look_ok g5 (r3'.keep (settle_settled rb) (s4.trans s5)) hdb') (look_ok g5 r5 hdc) hr0 Q fun v F6 H6 g6 s6 r6 =>
      q v F6 H6 g6 ((((((s1.trans s2).trans s3).trans s3').trans s4).trans s5).trans s6) r6
  · rename_i ho
    cases hr
    refine h2 c F3' H3 σ e2 x y da db _ g3' oa ob' ho _ fun v F4 H4 g4 s4 r4 => ?_
    cases r4
    exact ⟨false, rfl, iteF (q _ F4 H4 g4 ((((s1.trans s2).trans s3).trans s3').trans s4) (.bl _))⟩
  · cases hr
theorem je_ch {op op' : CmpOp} {o o' : D → D → Option Rs} (h : CmpR X op o) (h' : CmpR X op' o') (ha : JE X a fa) (hb : JE X b fb) (hc : JE X c fc) (hm : lastMarks [op, op'] [b, c] = false := by with_unfolding_all rfl) :
    JE X (.Compare a [op, op'] [b, c] pos) (eCh o o' fa fb fc) := by
  obtain ⟨r, h1, h2⟩ := h.ex
  obtain ⟨r', h1', h2'⟩ := h'.ex
  exact (pe_chain h1 h1' ha hb hc hm).imp fun σ H Q w => ch_ok h2 h2' w
theorem jt_ch {op op' : CmpOp} {o o' : D → D → Option Rs} (h : CmpR X op o) (h' : CmpR X op' o') (ha : JE X a fa) (hb : JE X b fb) (hc : JE X c fc) (hm : lastMarks [op, op'] [b, c] = false := by with_unfolding_all rfl) :
    JT X (.Compare a [op, op'] [b, c] pos) (asT (eCh o o' fa fb fc)) := by
  obtain ⟨r, h1, h2⟩ := h.ex
  obtain ⟨r', h1', h2'⟩ := h'.ex
  exact (pt_chain h1 h1' ha hb hc hm).imp fun σ H Q w => ch_ok h2 h2' (asT_ok w)
end
end Ev
set_option Elab.async false
set_option linter.all false
set_option maxRecDepth 100000
set_option maxHeartbeats 1000000
/-! Ev7: subscripts, slices, displays, look-ups in dicts. -/
namespace Ev
open PySem PySem.Spec PyProof.Rows L2

/-! ### keys -/
def asKey : D → Option Key
  | .int i => some (.inl i)
  | .str x => some (.inr x)
  | _ => none
def asKeys : List D → Option (List Key)
  | [] => some []
  | d :: ds => match asKey d, asKeys ds with
    | some k, some ks => some (k :: ks)
    | _, _ => none
theorem asKey_eq {d : D} {k : Key} (h : asKey d = some k) : d = kD k := by
  cases d <;> simp only [asKey, Option.some.injEq, reduceCtorEq] at h <;> subst h <;> rfl
theorem asKeys_eq : ∀ {ds : List D} {ks : List Key}, asKeys ds = some ks → ds = ks.map kD
  | [], ks, h => by cases h; rfl
  | d :: ds, ks, h => by
    simp only [asKeys] at h
    split at h
    · rename_i k ks' h1 h2
      cases h
      rw [asKey_eq h1, asKeys_eq h2]; rfl
    · cases h
def dget (kvs : List (D × D)) (k : D) : Option D := (kvs.find? fun p => PyData.eqv p.1 k).map (·.2)
theorem eqv_kD (k k' : Key) : PyData.eqv (kD k) (kD k') = decide (k = k') := by
  cases k <;> cases k' <;> simp [kD, PyData.eqv, Bool.beq_eq_decide_eq]
theorem eqvAll_kD : ∀ (k k' : List Key), PyData.eqvAll (k.map kD) (k'.map kD) = decide (k = k')
  | [], [] => by simp [PyData.eqvAll]
  | [], _ :: _ => by simp [PyData.eqvAll]
  | _ :: _, [] => by simp [PyData.eqvAll]
  | a :: l, b :: m => by
    simp only [List.map_cons, PyData.eqvAll, eqv_kD, eqvAll_kD l m]
    rw [← Bool.decide_and]
    exact decide_eq_decide.mpr (by rw [List.cons.injEq])
theorem eqv_tD (k k' : List Key) : PyData.eqv (.tuple (k.map kD)) (.tuple (k'.map kD)) = decide (k = k') := by
  simp only [PyData.eqv]; exact eqvAll_kD k k'
theorem eqv_tk (k : Key) (k' : List Key) : PyData.eqv (kD k) (.tuple (k'.map kD)) = false := by cases k <;> simp [kD, PyData.eqv]
theorem eqv_kt (k : Key) (k' : List Key) : PyData.eqv (.tuple (k'.map kD)) (kD k) = false := by cases k <;> simp [kD, PyData.eqv]
/-- two answers go together -/
def RO (K : PySem.W.Frag) (F : Hp) : Option V → Option D → Prop
  | some v, some d => Rp K F v d
  | none, none => True
  | _, _ => False
section
variable {K : PySem.W.Frag} {F H : Hp}
theorem RpK.get : ∀ {kvs : List (Key × V)} {ds : List (D × D)} (k : Key), RpK K F kvs ds → RO K F (valV kvs k) (dget ds (kD k))
  | _, _, k, .nil => trivial
  | _, _, k, .cons (k := k') (v := v) (r := r) (d := d) (ds := ds) h t => by
    by_cases e : k' = k
    · subst e
      rw [valV_pos rfl]
      unfold dget
      rw [List.find?_cons_of_pos (by rw [eqv_kD]; simp)]
      exact h
    · rw [valV_neg e]
      unfold dget
      rw [List.find?_cons_of_neg (by rw [eqv_kD]; simp [e])]
      exact RpK.get k t
theorem RpT.get : ∀ {kvs : List (List Key × V)} {ds : List (D × D)} (k : List Key), RpT K F kvs ds → RO K F (valV kvs k) (dget ds (.tuple (k.map kD)))
  | _, _, k, .nil => trivial
  | _, _, k, .cons (k := k') (v := v) (r := r) (d := d) (ds := ds) h t => by
    by_cases e : k' = k
    · subst e
      rw [valV_pos rfl]
      unfold dget
      rw [List.find?_cons_of_pos (by rw [eqv_tD]; simp)]
      exact h
    · rw [valV_neg e]
      unfold dget
      rw [List.find?_cons_of_neg (by rw [eqv_tD]; simp [e])]
      exact RpT.get k t
theorem RpA.keys : ∀ {xs : List V} {ks : List Key}, RpA K F xs (ks.map kD) → xs = ks.map kV
  | _, [], .nil => rfl
  | _, k :: ks, .cons h t => by
    rw [List.map_cons, ← RpA.keys t]
    cases k with
    | inl i => cases h; rfl
    | inr x => cases h; rfl
theorem CstA.keys : ∀ {xs : List V} {ks : List Key}, CstA K xs (ks.map kD) → xs = ks.map kV
  | _, [], .nil => rfl
  | _, k :: ks, .cons h t => by
    rw [List.map_cons, ← CstA.keys t]
    cases k with
    | inl i => cases h; rfl
    | inr x => cases h; rfl
end
/-- the keys' kind: 0 none, 1 ints and texts, 2 tuples -/
def kindOf : List (D × D) → Nat
  | [] => 0
  | (.tuple _, _) :: _ => 2
  | _ => 1
/-- a key that fits the dict -/
def fits (kvs : List (D × D)) : D → Bool
  | .int _ => kindOf kvs != 2
  | .str _ => kindOf kvs != 2
  | .tuple ks => kindOf kvs == 2 && (asKeys ks).isSome && !kcOk ks
  | _ => false
section
variable {K : PySem.W.Frag} {F H : Hp}
theorem RpT.kind {kvs : List (List Key × V)} {ds : List (D × D)} (n : kvs ≠ []) (h : RpT K F kvs ds) : kindOf ds = 2 := by
  cases h with
  | nil => exact absurd rfl n
  | cons _ _ => rfl
theorem RpK.kind {kvs : List (Key × V)} {ds : List (D × D)} (h : RpK K F kvs ds) : kindOf ds ≠ 2 := by
  cases h with
  | nil => decide
  | cons _ _ => rename_i k _ _ _ _ _ _; cases k <;> simp [kindOf, kD]
/-- a look-up: the dict and the key as they are seen -/
theorem dget_ok {x y : V} {kvs : List (D × D)} {k : D} (s : Sub F H) (ox : Obs K F H x (.dict kvs)) (hk : Rp K F y k) (f : fits kvs k = true) : ∃ a o, x = .ref a ∧ DGet H a y o ∧ RO K F o (dget kvs k) := by
  have key1 : ∀ k0 : Key, k = kD k0 → y = kV k0 := fun k0 e => by
    subst e
    cases k0 with
    | inl i => cases hk; rfl
    | inr x => cases hk; rfl
  have main : (∃ k0 : Key, k = kD k0 ∧ kindOf kvs ≠ 2) ∨ ∃ ks : List Key, k = .tuple (ks.map kD) ∧ kindOf kvs = 2 ∧ kcOk (ks.map kD) = false := by
    cases k with
    | int i => exact .inl ⟨.inl i, rfl, by simpa [fits] using f⟩
    | str i => exact .inl ⟨.inr i, rfl, by simpa [fits] using f⟩
    | tuple ds =>
      simp only [fits, Bool.and_eq_true, beq_iff_eq, Option.isSome_iff_exists, Bool.not_eq_true'] at f
      obtain ⟨⟨h1, ks, h2⟩, h3⟩ := f
      have e := asKeys_eq h2
      subst e
      exact .inr ⟨ks, rfl, h1, h3⟩
    | none => cases f
    | bool _ => cases f
    | list _ => cases f
    | dict _ => cases f
  rcases main with ⟨k0, e, hn⟩ | ⟨ks, e, hn, hkc⟩
  · rcases ox.dict s with ⟨a, kv, rfl, r, rr⟩ | ⟨a, kv, rfl, n, r, rr⟩
    · have ey := key1 k0 e
      subst e
      exact ⟨a, _, rfl, .inl ⟨kv, k0, r, ey, rfl⟩, rr.get k0⟩
    · exact absurd (rr.kind n) hn
  · rcases ox.dict s with ⟨a, kv, rfl, r, rr⟩ | ⟨a, kv, rfl, n, r, rr⟩
    · exact absurd hn rr.kind
    · subst e
      cases hk with
      | tup e1 r1 =>
        rename_i b xs
        have ex := r1.keys
        subst ex
        rcases e1 with e1 | e1
        · exact ⟨a, _, rfl, .inr ⟨kv, ks, b, r, rfl, s.tup e1, rfl⟩, rr.get ks⟩
        · rw [hkc] at e1; cases e1.2
end

/-! ### x[i] -/
def scalD : D → Bool
  | .none => true
  | .bool _ => true
  | .int _ => true
  | .str _ => true
  | _ => false
def opSub2 : D → D → Option Rs
  | .list ds, .int i => (atI ds i).map .shr
  | .tuple ds, .int i => (atI ds i).map .shr
  | .str x, .int i => if x.length ≤ sizeLine then (atI x.cps.toList i).map fun c => .shr (.str ⟨#[c]⟩) else none
  | _, _ => none
/-- the object's outcome is a constant: only what is no object may be picked out -/
def subK (r : Rs) (x : Option Rs) : Option Rs := match r, x with
  | .cst _, some (.shr d) => if scalD d then some (.shr d) else some (.cst d)
  | _, x => x
def eSub (fo fi : E) : E := fun e => do
  let (ro, e1) ← fo e
  let (ri, e2) ← fi e1
  let o ← look (settle ro) e2
  match o with
  | .dict kvs => do
    let (k, e3) ← take ri e2
    let o' ← look (settle ro) e3
    match o' with
    | .dict kvs' => if fits kvs' k then (do let d ← dget kvs' k; pure (.shr d, e3)) else none
    | _ => none
  | _ => do
    let i ← look ri e2
    let r ← subK ro (opSub2 o i)
    pure (r, e2)
section
variable {K : PySem.W.Frag} {F H : Hp}
theorem RpA.atI {xs : List V} {ds : List D} {i : Int} {d : D} (h : RpA K F xs ds) (e : L2.atI ds i = some d) : ∃ v, L2.atI xs i = some v ∧ Rp K F v d := by
  unfold L2.atI at e ⊢
  rw [h.length]
  cases q : ixN ds.length i with
  | none => rw [q] at e; cases e
  | some j =>
    rw [q] at e
    obtain ⟨v, e1, r⟩ := h.at' (i := j) e
    exact ⟨v, e1, r⟩
theorem CstA.length : ∀ {vs : List V} {ds : List D}, CstA K vs ds → vs.length = ds.length
  | _, _, .nil => rfl
  | _, _, .cons _ h => by simp [CstA.length h]
theorem CstA.at' : ∀ {vs : List V} {ds : List D} {i : Nat} {d : D}, CstA K vs ds → ds[i]? = some d → ∃ v, vs[i]? = some v ∧ Cst K v d
  | _, _, _, _, .nil, h => by simp at h
  | _, _, 0, _, .cons r _, h => by simp at h; subst h; exact ⟨_, rfl, r⟩
  | _, _, i + 1, d, .cons _ t, h => by
    obtain ⟨v, h1, h2⟩ := CstA.at' (i := i) (d := d) t (by simpa using h)
    exact ⟨v, by simpa using h1, h2⟩
theorem CstA.atI {xs : List V} {ds : List D} {i : Int} {d : D} (h : CstA K xs ds) (e : L2.atI ds i = some d) : ∃ v, L2.atI xs i = some v ∧ Cst K v d := by
  unfold L2.atI at e ⊢
  rw [h.length]
  cases q : ixN ds.length i with
  | none => rw [q] at e; cases e
  | some j =>
    rw [q] at e
    obtain ⟨v, e1, r⟩ := h.at' (i := j) e
    exact ⟨v, e1, r⟩
theorem Cst.scal {v : V} {d : D} (h : Cst K v d) (s : scalD d = true) : Rp K F v d := by
  cases h with
  | non => exact .non
  | bl b => exact .bl b
  | int i => exact .int i
  | str x => exact .str x
  | tup _ _ _ _ _ _ => cases s
/-- a constant's items stay constants; others are frozen -/
theorem Obs.tupleK (s : Sub F H) {v : V} {ds : List D} {r : Rs} {c : Ctx} {σ : L2.St} {env : Env} (g : G K c F H σ env) (h : RsOk K c F H σ env v r) (l : look r env = some (.tuple ds)) :
    ∃ a xs, v = .ref a ∧ SqT K H a xs ∧ ((RpA K F xs ds ∧ ∀ d, r ≠ .cst d) ∨ (CstA K xs ds ∧ ∃ d, r = .cst d)) := by
  cases r with
  | cst d =>
    simp only [look] at l
    split at l
    · cases l
      cases h with | tup h1 h2 h3 h4 h5 h6 => exact ⟨_, _, rfl, .inr ⟨_, _, _, h1, h2, h3, h4, h5⟩, .inr ⟨h6, _, rfl⟩⟩
    · cases l
  | shr d =>
    cases l
    cases h with | tup e r => exact ⟨_, _, rfl, s.sq e, .inl ⟨r, fun _ z => by cases z⟩⟩
  | new d =>
    cases l
    obtain ⟨a, rfl, _, _, ob, _⟩ := h
    cases ob
  | var i =>
    have o := look_ok g h l
    simp only [look] at l
    cases es : env[i]? with
    | none => rw [es] at l; cases l
    | some sl =>
      rw [es] at l
      have eσ : σ[i]? = some (some v) := h
      have q := g.slot i sl _ es eσ
      cases sl with
      | emp => cases l
      | frz d =>
        cases l
        obtain ⟨_, ev, r⟩ := q
        cases ev
        cases r with | tup e0 r => exact ⟨_, _, rfl, s.sq e0, .inl ⟨r, fun _ z => by cases z⟩⟩
      | own d => cases l; obtain ⟨_, _, _, _, ob⟩ := q; cases ob
      | io d => cases l; obtain ⟨_, _, _, io⟩ := q; cases io.ob
      | lk d => cases l; obtain ⟨_, _, _, _, _, lo, _⟩ := g.lk i _ es; cases lo
end
section
variable {X : Cx} {a b : Expr} {fa fb : E} {pos : Pos}
theorem je_sub2 (hu : Rm X) (ha : JE X a fa) (hb : JE X b fb) (h1 : PlainIx b := by intro _ _; rfl) (h2 : NoSl b := by intro _ _; rfl) : JE X (.Subscript a b pos) (eSub fa fb) :=
  ((pe_ix (pos := pos) ix_seq ha hb h1).or (pe_dget (by unfold Rm at hu; omega) ha hb h2)).imp fun σ H Q w => by
    obtain ⟨c, F, env, res, env', g, hf, q⟩ := w
    simp only [eSub, bind, Option.bind_eq_some_iff] at hf
    obtain ⟨⟨ra, e1⟩, ha, ⟨rb, e2⟩, hb, o, ho, hr⟩ := hf
    dsimp only at hb ho hr
    split at hr
    · rename_i kvs
      refine .inr ?_
      simp only [Option.bind_eq_some_iff] at hr
      obtain ⟨⟨k, e3⟩, hk, o', ho', hr⟩ := hr
      dsimp only at ho' hr
      split at hr
      · rename_i kvs'
        split at hr
        · rename_i hfit
          simp only [Option.bind_eq_some_iff, pure, Option.some.injEq] at hr
          obtain ⟨d, hd, e⟩ := hr
          cases e
          refine ⟨c, F, env, ra, e1, g, ha, fun x F1 H1 g1 s1 r1 => ?_⟩
          obtain ⟨F2, g2, s2, r2⟩ := settle_ok g1 r1
          refine ⟨c, F2, e1, rb, e2, g2, hb, fun y F3 H3 g3 s3 r3 => ?_⟩
          obtain ⟨F4, g4, s4, r4⟩ := take_ok g3 r3 hk
          have ox := look_ok g4 (r2.keep (settle_settled ra) (s3.trans s4)) ho'
          obtain ⟨a, o, rfl, hg, ro⟩ := dget_ok g4.sub ox r4 hfit
          rw [hd] at ro
          cases o with
          | none => exact ro.elim
          | some v => exact ⟨a, v, rfl, hg, q v F4 H3 g4 (((s1.trans s2).trans s3).trans s4) ro⟩
        · cases hr
      · cases hr
    · rename_i hnd
      refine .inl ?_
      simp only [Option.bind_eq_some_iff, pure, Option.some.injEq] at hr
      obtain ⟨i, hi, r, hr, e⟩ := hr
      cases e
      refine ⟨c, F, env, ra, e1, g, ha, fun x F1 H1 g1 s1 r1 => ?_⟩
      obtain ⟨F2, g2, s2, r2⟩ := settle_ok g1 r1
      refine ⟨c, F2, e1, rb, env', g2, hb, fun y F3 H3 g3 s3 r3 => ?_⟩
      have r2' : RsOk X.K c F3 H3 σ _ x (settle ra) := r2.keep (env' := env') (settle_settled ra) s3
      have ox := look_ok g3 r2' ho
      have oy := look_ok g3 r3 hi
      have ss := (s1.trans s2).trans s3
      unfold opSub2 at hr
      split at hr
      · cases oy.int
        obtain ⟨p, xs, rfl, e1, rr⟩ := ox.list g3.sub
        rename_i ds i
        cases hd : L2.atI ds i with
        | none =>
          rw [hd] at hr
          cases ra <;> cases hr
        | some d =>
          rw [hd] at hr
          obtain ⟨v, e2, r5⟩ := rr.atI hd
          have hra : ∀ d', ra ≠ .cst d' := fun d' z => by
            subst z
            simp only [Ev.settle, look] at ho
            split at ho
            · cases ho; cases r1
            · cases ho
          have er : res = .shr d := by
            cases ra with
            | cst d' => exact absurd rfl (hra d')
            | _ => cases hr; rfl
          subst er
          exact .inl ⟨p, xs, i, v, rfl, rfl, e1.sq, e2, q v F3 H3 g3 ss r5⟩
      · cases oy.int
        rename_i ds i
        obtain ⟨p, xs, rfl, e1, rr⟩ := Obs.tupleK g3.sub g3 r2' ho
        cases hd : L2.atI ds i with
        | none =>
          rw [hd] at hr
          cases ra <;> cases hr
        | some d =>
          rw [hd] at hr
          rcases rr with ⟨rr, hne⟩ | ⟨rr, d', hcst⟩
          · obtain ⟨v, e2, r5⟩ := rr.atI hd
            have er : res = .shr d := by
              cases ra with
              | cst d' => exact absurd rfl (hne d')
              | _ => cases hr; rfl
            subst er
            exact .inr (.inl ⟨p, xs, i, v, rfl, rfl, e1, e2, q v F3 H3 g3 ss r5⟩)
          · obtain ⟨v, e2, r5⟩ := rr.atI hd
            refine .inr (.inl ⟨p, xs, i, v, rfl, rfl, e1, e2, q v F3 H3 g3 ss ?_⟩)
            cases ra with
            | cst d'' =>
              simp only [subK, Option.map_some] at hr
              split at hr
              · rename_i hs; cases hr; exact r5.scal hs
              · cases hr; exact r5
            | _ => cases hcst
      · split at hr
        · rename_i x i hz
          cases ox.str; cases oy.int
          cases hd : L2.atI x.cps.toList i with
          | none => rw [hd] at hr; cases ra <;> cases hr
          | some d =>
            rw [hd] at hr
            have er : res = .shr (.str ⟨#[d]⟩) := by cases ra <;> simp [subK, scalD] at hr <;> exact hr.symm
            subst er
            exact .inr (.inr ⟨x, i, d, rfl, rfl, hz, hd, q _ F3 H3 g3 ss (.str _)⟩)
        · cases ra <;> cases hr
      · cases ra <;> cases hr
end
end Ev
set_option Elab.async false
set_option linter.all false
set_option maxRecDepth 100000
set_option maxHeartbeats 1000000
/-! Ev8: built-in functions of one argument, displays, slices. -/
namespace Ev
open PySem PySem.Spec PyProof.Rows L2

/-- the built-in names stand as they are -/
structure Bl (mg : Str → Option Value) : Prop where
  len : mg "len" = none
  range : mg "range" = none
  isinstance : mg "isinstance" = none
  sorted : mg "sorted" = none
  int : mg "int" = none
  min : mg "min" = none
  list : mg "list" = none
  max : mg "max" = none
  all : mg "all" = none
  tuple : mg "tuple" = none
  dict : mg "dict" = none
  enumerate : mg "enumerate" = none
  set : mg "set" = none
  str : mg "str" = none
  any : mg "any" = none
  sum : mg "sum" = none
  zip : mg "zip" = none
  abs : mg "abs" = none
  bool : mg "bool" = none

/-! ### f(a) -/
def eUn (op : D → Option Rs) (f : E) : E := fun e => do
  let (r, e1) ← f e
  let d ← look r e1
  let res ← op d
  pure (res, e1)
def UnOk (K : PySem.W.Frag) (r : List V → Hp → VK → Prop) (op : D → Option Rs) : Prop := ∀ (c : Ctx) (F H : Hp) (σ : L2.St) (env : Env) (x : V) (d : D) (res : Rs), G K c F H σ env → Obs K F H x d → op d = some res →
  ∀ Q : VK, (∀ v F' H', G K c F' H' σ env → Same F F' → RsOk K c F' H' σ env v res → Q v H') → r [x] H Q
section
variable {X : Cx} {a : Expr} {fa : E} {x : Str} {p pos : Pos} {id : String} {r : List V → Hp → VK → Prop} {op : D → Option Rs}
theorem un_ok (h : UnOk X.K r op) {σ : L2.St} {H : Hp} {Q : VK} (w : tE X.K (eUn op fa) σ H Q) : tCB r (tCons (tE X.K fa) tNil) σ H Q := by
  obtain ⟨c, F, env, res, env', g, hf, q⟩ := w
  simp only [eUn, bind, Option.bind_eq_some_iff, pure, Option.some.injEq] at hf
  obtain ⟨⟨ra, e1⟩, ha, d, hd, r', hr, e⟩ := hf
  cases e
  exact ⟨c, F, env, ra, e1, g, ha, fun x F1 H1 g1 s1 r1 => h c F1 H1 σ e1 x d res g1 (look_ok g1 r1 hd) hr Q fun v F' H' g' s' rr => q v F' H' g' (s1.trans s') rr⟩
theorem je_unB (hc : CallR X (.builtin id) r) (h : UnOk X.K r op) (hm : X.mg x = none) (ha : JE X a fa) (hv : bootBuiltins x = some (.builtin id)) (hg : Gl X x := by rfl) (hn : x ≠ "__name__" := by decide) (hdb : (x == ("__debug__" : Str)) = false := by decide)
    (he : starEach [a] X.env = (false, eval a X.env) :: starEach [] X.env := by rfl) (hpl : (backTo pos (starEach [] X.env)).any (·.1) = false := by rfl) : JE X (.Call (.Name x p) [a] [] pos) (eUn op fa) :=
  (pe_callB hc hg hm hv (pa_cons ha pa_nil he) hn hdb he hpl).imp fun _ _ _ w => un_ok h w
theorem je_unT (hc : CallR X (.type id) r) (h : UnOk X.K r op) (hm : X.mg x = none) (ha : JE X a fa) (hv : bootBuiltins x = some (.type id)) (hg : Gl X x := by rfl) (hn : x ≠ "__name__" := by decide) (hdb : (x == ("__debug__" : Str)) = false := by decide)
    (he : starEach [a] X.env = (false, eval a X.env) :: starEach [] X.env := by rfl) (hpl : (backTo pos (starEach [] X.env)).any (·.1) = false := by rfl) : JE X (.Call (.Name x p) [a] [] pos) (eUn op fa) :=
  (pe_callTy hc hg hm hv (pa_cons ha pa_nil he) hn hdb he hpl).imp fun _ _ _ w => un_ok h w
end

/-! ### len -/
def opLen : D → Option Rs
  | .list ds => some (.shr (.int ds.length))
  | .tuple ds => some (.shr (.int ds.length))
  | .str x => if x.length ≤ sizeLine then some (.shr (.int x.length)) else none
  | .dict kvs => some (.shr (.int kvs.length))
  | _ => none
section
variable {K : PySem.W.Frag} {F H : Hp}
theorem RpK.length : ∀ {kvs : List (Key × V)} {ds : List (D × D)}, RpK K F kvs ds → kvs.length = ds.length
  | _, _, .nil => rfl
  | _, _, .cons _ h => by simp [RpK.length h]
theorem RpT.length : ∀ {kvs : List (List Key × V)} {ds : List (D × D)}, RpT K F kvs ds → kvs.length = ds.length
  | _, _, .nil => rfl
  | _, _, .cons _ h => by simp [RpT.length h]
end
section
variable {X : Cx}
theorem call_lenDR : CallR X (.builtin "len") (fun xs H Q => ∃ a kvs, xs = [V.ref a] ∧ Rd H a (.dK kvs) ∧ Q (.int kvs.length) H) := by
  intro pins s σ H xs us Q I r h
  obtain ⟨a, kvs, rfl, ha, q⟩ := h
  obtain ⟨u, rfl, ru⟩ := vals1 r
  cases ru
  exact d_len I ha fun t s' I' => ⟨.int kvs.length, H, I', ⟨t, rfl⟩, q⟩
theorem call_lenTR : CallR X (.builtin "len") (fun xs H Q => ∃ a kvs, xs = [V.ref a] ∧ Rd H a (.dT kvs) ∧ Q (.int ((kvs.length : Nat) : Int)) H) := by
  intro pins s σ H xs us Q I r h
  obtain ⟨p, kvs, rfl, h1, q⟩ := h
  obtain ⟨u, rfl, ru⟩ := vals1 r
  cases ru
  obtain ⟨z, hd, ys, rel, dd⟩ := dt_rd I.hok h1
  have hl : kvs.length = ys.length := Paired.length rel
  refine call_len_dictH hd dd (by rw [← hl]; rw [sizeLine_eq] at z; omega) ?_
  rw [← hl]
  exact ⟨.int ((kvs.length : Nat) : Int), H, I.tok _, ⟨_, rfl⟩, q⟩
end
abbrev rLen4 (K : PySem.W.Frag) : List V → Hp → VK → Prop := fun xs H Q => (∃ x n, xs = [x] ∧ LenV K x H n ∧ Q (.int n) H) ∨ ((∃ a kvs, xs = [V.ref a] ∧ Rd H a (.dK kvs) ∧ Q (.int kvs.length) H) ∨ ∃ a kvs, xs = [V.ref a] ∧ Rd H a (.dT kvs) ∧ Q (.int ((kvs.length : Nat) : Int)) H)
theorem call_len4 {X : Cx} : CallR X (.builtin "len") (rLen4 X.K) := call_len.or (call_lenDR.or call_lenTR)
theorem ok_len {K : PySem.W.Frag} : UnOk K (rLen4 K) opLen := by
  intro c F H σ env x d res g ox h Q q
  cases d with
  | none => cases h
  | bool _ => cases h
  | int _ => cases h
  | str x =>
    simp only [opLen] at h
    split at h
    · rename_i hl
      cases h; cases ox.str
      exact .inl ⟨_, _, rfl, ⟨hl, rfl⟩, shrOk g (.int _) q⟩
    · cases h
  | list ds =>
    cases h
    obtain ⟨a, xs, rfl, e, r⟩ := ox.list g.sub
    refine .inl ⟨_, _, rfl, .inl ⟨xs, e.sq, rfl⟩, ?_⟩
    rw [r.length]
    exact shrOk g (.int _) q
  | tuple ds =>
    cases h
    obtain ⟨a, xs, rfl, e, r⟩ := ox.tuple g.sub
    refine .inl ⟨_, _, rfl, .inr ⟨xs, e, rfl⟩, ?_⟩
    have hl : xs.length = ds.length := r.elim (fun r => r.length) fun r => r.length
    rw [hl]
    exact shrOk g (.int _) q
  | dict kvs =>
    cases h
    rcases ox.dict g.sub with ⟨a, kv, rfl, e, r⟩ | ⟨a, kv, rfl, n, e, r⟩
    · refine .inr (.inl ⟨a, kv, rfl, e, ?_⟩)
      rw [r.length]
      exact shrOk g (.int _) q
    · refine .inr (.inr ⟨a, kv, rfl, e, ?_⟩)
      rw [r.length]
      exact shrOk g (.int _) q

/-! ### int, str, abs, bool -/
def opInt : D → Option Rs
  | .int i => some (.shr (.int i))
  | .bool b => some (.shr (.int (if b then 1 else 0)))
  | _ => none
theorem ok_int {K : PySem.W.Frag} : UnOk K (fun xs H Q => (∃ i, xs = [V.int i] ∧ Q (.int i) H) ∨ ∃ k, xs = [V.bl k] ∧ Q (.int (if k then 1 else 0)) H) opInt := by
  intro c F H σ env x d res g ox h Q q
  unfold opInt at h
  split at h
  · cases h; cases ox.int; exact .inl ⟨_, rfl, shrOk g (.int _) q⟩
  · cases h; cases ox.bool; exact .inr ⟨_, rfl, shrOk g (.int _) q⟩
  · cases h
def opStr : D → Option Rs
  | .int i => if i.natAbs.log2 < 1920 then some (.shr (.str (toString i))) else none
  | _ => none
theorem ok_str {K : PySem.W.Frag} : UnOk K (fun xs H Q => ∃ i, xs = [V.int i] ∧ i.natAbs.log2 < 1920 ∧ Q (.str (toString i)) H) opStr := by
  intro c F H σ env x d res g ox h Q q
  unfold opStr at h
  split at h
  · split at h
    · rename_i hl
      cases h; cases ox.int; exact ⟨_, rfl, hl, shrOk g (.str _) q⟩
    · cases h
  · cases h
def opAbs : D → Option Rs
  | .int i => some (.shr (.int (if i < 0 then -i else i)))
  | _ => none
theorem ok_abs {K : PySem.W.Frag} : UnOk K (fun xs H Q => ∃ i, xs = [V.int i] ∧ Q (.int (if i < 0 then -i else i)) H) opAbs := by
  intro c F H σ env x d res g ox h Q q
  unfold opAbs at h
  split at h
  · cases h; cases ox.int; exact ⟨_, rfl, shrOk g (.int _) q⟩
  · cases h

/-! ### sum, any, all of lists -/
def asInts : List D → Option (List Int)
  | [] => some []
  | .int i :: r => (asInts r).map (i :: ·)
  | _ :: _ => none
def asBools : List D → Option (List Bool)
  | [] => some []
  | .bool b :: r => (asBools r).map (b :: ·)
  | _ :: _ => none
theorem asInts_ok {K : PySem.W.Frag} {F : Hp} : ∀ {ds : List D} {ns : List Int} {xs : List V}, asInts ds = some ns → RpA K F xs ds → xs = ns.map V.int
  | [], ns, xs, h, r => by cases h; cases r; rfl
  | d :: ds, ns, xs, h, r => by
    cases d with
    | int i =>
      simp only [asInts, Option.map_eq_some_iff] at h
      obtain ⟨ms, h1, rfl⟩ := h
      cases r with | cons a b => cases a; rw [asInts_ok h1 b]; rfl
    | _ => simp [asInts] at h
theorem asBools_ok {K : PySem.W.Frag} {F : Hp} : ∀ {ds : List D} {ns : List Bool} {xs : List V}, asBools ds = some ns → RpA K F xs ds → xs = ns.map V.bl
  | [], ns, xs, h, r => by cases h; cases r; rfl
  | d :: ds, ns, xs, h, r => by
    cases d with
    | bool i =>
      simp only [asBools, Option.map_eq_some_iff] at h
      obtain ⟨ms, h1, rfl⟩ := h
      cases r with | cons a b => cases a; rw [asBools_ok h1 b]; rfl
    | _ => simp [asBools] at h
def opSum : D → Option Rs
  | .list ds => (asInts ds).map fun ns => .shr (.int ns.sum)
  | _ => none
def opAny : D → Option Rs
  | .list ds => (asBools ds).map fun bs => .shr (.bool (bs.any id))
  | _ => none
def opAll : D → Option Rs
  | .list ds => (asBools ds).map fun bs => .shr (.bool (bs.all id))
  | _ => none
theorem ok_sum {K : PySem.W.Frag} : UnOk K (rSum K) opSum := by
  intro c F H σ env x d res g ox h Q q
  unfold opSum at h
  split at h
  · rw [Option.map_eq_some_iff] at h
    obtain ⟨ns, h1, rfl⟩ := h
    obtain ⟨a, xs, rfl, e, r⟩ := ox.list g.sub
    rw [asInts_ok h1 r] at e
    exact ⟨a, ns, rfl, e.sq, shrOk g (.int _) q⟩
  · cases h
theorem ok_any {K : PySem.W.Frag} : UnOk K (rAny K) opAny := by
  intro c F H σ env x d res g ox h Q q
  unfold opAny at h
  split at h
  · rw [Option.map_eq_some_iff] at h
    obtain ⟨ns, h1, rfl⟩ := h
    obtain ⟨a, xs, rfl, e, r⟩ := ox.list g.sub
    rw [asBools_ok h1 r] at e
    exact ⟨a, ns, rfl, e.sq, shrOk g (.bl _) q⟩
  · cases h
theorem ok_all {K : PySem.W.Frag} : UnOk K (rAll K) opAll := by
  intro c F H σ env x d res g ox h Q q
  unfold opAll at h
  split at h
  · rw [Option.map_eq_some_iff] at h
    obtain ⟨ns, h1, rfl⟩ := h
    obtain ⟨a, xs, rfl, e, r⟩ := ox.list g.sub
    rw [asBools_ok h1 r] at e
    exact ⟨a, ns, rfl, e.sq, shrOk g (.bl _) q⟩
  · cases h

/-! ### min, max of a list -/
def isIntD : D → Bool
  | .int _ => true
  | _ => false
def isLI : D → Bool
  | .list xs => xs.all isIntD
  | _ => false
theorem alikeAll_LI : ∀ {xs ys : List D}, xs.all isIntD = true → ys.all isIntD = true → PySem.W.alikeAll xs ys = true
  | [], ys, _, _ => by cases ys <;> rfl
  | _ :: _, [], _, _ => rfl
  | x :: xs, y :: ys, h1, h2 => by
    rw [List.all_cons, Bool.and_eq_true] at h1 h2
    rw [PySem.W.alikeAll, Bool.and_eq_true]
    refine ⟨?_, alikeAll_LI h1.2 h2.2⟩
    have a1 := h1.1
    have a2 := h2.1
    unfold isIntD at a1 a2
    split at a1
    · split at a2
      · rfl
      · cases a2
    · cases a1
theorem alike_LI {x y : D} (h1 : isLI x = true) (h2 : isLI y = true) : PySem.W.alike x y = true := by
  unfold isLI at h1 h2
  split at h1
  · split at h2
    · rw [PySem.W.alike]; exact alikeAll_LI h1 h2
    · cases h2
  · cases h1
def alikes (ds : List D) : Bool := ds.all isLI || ds.all fun a => ds.all (PySem.W.alike a)
theorem alikes_un {ds : List D} (h : alikes ds = true) : ∀ a ∈ ds, ∀ b ∈ ds, PySem.W.alike a b = true := by
  unfold alikes at h
  rw [Bool.or_eq_true] at h
  rcases h with h | h
  · rw [List.all_eq_true] at h
    exact fun a ha b hb => alike_LI (h a ha) (h b hb)
  · simpa only [List.all_eq_true] using h
def ordOk (ds : List D) : Bool := PyData.plainAll ds && alikes ds && ds.all (fun d => !isNone d) && decide (PyData.depthAll ds ≤ 64)
theorem ordOk_un {ds : List D} (h : ordOk ds = true) : PyData.plainAll ds = true ∧ PySem.W.AlikeAll ds ∧ PyData.depthAll ds ≤ 64 := by
  unfold ordOk at h
  simp only [Bool.and_eq_true, decide_eq_true_eq, List.all_eq_true] at h
  refine ⟨h.1.1.1, ⟨alikes_un h.1.1.2, fun x hx e => ?_⟩, h.2⟩
  have := h.1.2 x hx
  rw [e] at this
  simp [isNone] at this
def opMin : D → Option Rs
  | .list (d :: ds) => if ordOk (d :: ds) then some (.shr (PySem.W.minD d ds)) else none
  | _ => none
def opMax : D → Option Rs
  | .list (d :: ds) => if ordOk (d :: ds) then some (.shr (PySem.W.maxD d ds)) else none
  | _ => none
/-- the result is an item that stands for m -/
def rBest (K : PySem.W.Frag) (best : D → List D → D) : List V → Hp → VK → Prop := fun vs H Q => ∃ a xs F d ds, vs = [V.ref a] ∧ LR K H a xs ∧ Sub F H ∧ RpA K F xs (d :: ds) ∧ ordOk (d :: ds) = true ∧ ∀ v, Rp K F v (best d ds) → Q v H
section
variable {X : Cx}
theorem plainAt {ds : List D} (h : PyData.plainAll ds = true) : ∀ {i : Nat} {d : D}, ds[i]? = some d → d.plain = true := fun {i d} e => by
  induction ds generalizing i with
  | nil => simp at e
  | cons x xs ih =>
    simp only [PyData.plainAll, Bool.and_eq_true] at h
    cases i with
    | zero => simp at e; subst e; exact h.1
    | succ i => exact ih h.2 (by simpa using e)
/-- the value at i stands for what it reads as -/
theorem best_at {pins : List (Addr × Obj)} {σ : L2.St} {H F : Hp} {s : Shared} {h' : Heap} (I : Inv X pins σ H s) {xs : List V} {ds : List D} {its : List Value} {i : Nat} {u : Value} {m : D} {bs : List Addr} (sF : Sub F H) (r : RpA X.K F xs ds) (rv : Vals xs its) (p : PyData.plainAll ds = true)
    (hu : its[i]? = some u) (hk : ∀ b o, s.heap.get? b = some o → h'.get? b = some o) (hr : Reads h' u m bs) : ∃ v, RelV v u ∧ Rp X.K F v m := by
  have hl := rv.length
  cases ev : xs[i]? with
  | none =>
    have h1 := List.getElem?_eq_none_iff.mp ev
    have h2 := (List.getElem?_eq_some_iff.mp hu).1
    omega
  | some v =>
    obtain ⟨u', hu', ru⟩ := rv.get ev
    rw [hu] at hu'; cases hu'
    obtain ⟨d, hd, rd⟩ := r.at ev
    have pd := plainAt p hd
    obtain ⟨as, hr2⟩ := (rd.sub sF).reads I pd ru
    have := SeqAt.plain_unique d m u as bs pd (PyProof.Rows.Reads.keeps hk hr2) hr
    subst this
    exact ⟨v, ru, rd⟩
theorem cr_minP (hu : Rm X) (hc : X.calm = true) : CallR X (.builtin "min") (rBest X.K PySem.W.minD) := by
  intro pins s σ H vs us Q I r h
  obtain ⟨a, xs, F, d, ds, rfl, e, sF, rr, ok, q⟩ := h
  obtain ⟨p1, p2, p3⟩ := ordOk_un ok
  rw [Vals.ref1 r]
  obtain ⟨its, rv, hl, hz⟩ := I.list (LR.sq e)
  obtain ⟨as, hr⟩ := (rr.sub sF).reads I p1 rv
  refine PySem.W.min_list_data (I.ok.hd hc) hl.isList (vs := its.toArray) hr p2 (by unfold Rm at hu; omega) fun i v h' tk bs hv hr' hk => ?_
  obtain ⟨w, rw', rp⟩ := best_at I sF rr rv p1 (by simpa using hv) hk hr'
  exact ⟨w, H, I.kept hk, rw', q w rp⟩
theorem cr_maxP (hu : Rm X) (hc : X.calm = true) : CallR X (.builtin "max") (rBest X.K PySem.W.maxD) := by
  intro pins s σ H vs us Q I r h
  obtain ⟨a, xs, F, d, ds, rfl, e, sF, rr, ok, q⟩ := h
  obtain ⟨p1, p2, p3⟩ := ordOk_un ok
  rw [Vals.ref1 r]
  obtain ⟨its, rv, hl, hz⟩ := I.list (LR.sq e)
  obtain ⟨as, hr⟩ := (rr.sub sF).reads I p1 rv
  refine PySem.W.max_list_data (I.ok.hd hc) hl.isList (vs := its.toArray) hr p2 (by unfold Rm at hu; omega) fun i v h' tk bs hv hr' hk => ?_
  obtain ⟨w, rw', rp⟩ := best_at I sF rr rv p1 (by simpa using hv) hk hr'
  exact ⟨w, H, I.kept hk, rw', q w rp⟩
end
theorem ok_best {K : PySem.W.Frag} {best : D → List D → D} {op : D → Option Rs} (ho : ∀ x res, op x = some res → ∃ d ds, x = .list (d :: ds) ∧ ordOk (d :: ds) = true ∧ res = .shr (best d ds)) : UnOk K (rBest K best) op := by
  intro c F H σ env x d res g ox h Q q
  obtain ⟨d, ds, rfl, ok, rfl⟩ := ho _ _ h
  obtain ⟨a, xs, rfl, e, r⟩ := ox.list g.sub
  exact ⟨a, xs, F, d, ds, rfl, e, g.sub, r, ok, fun v rv => shrOk g rv q⟩
theorem ok_min {K : PySem.W.Frag} : UnOk K (rBest K PySem.W.minD) opMin := ok_best fun x res h => by
  unfold opMin at h
  split at h
  · split at h
    · rename_i ok; cases h; exact ⟨_, _, rfl, ok, rfl⟩
    · cases h
  · cases h
theorem ok_max {K : PySem.W.Frag} : UnOk K (rBest K PySem.W.maxD) opMax := ok_best fun x res h => by
  unfold opMax at h
  split at h
  · split at h
    · rename_i ok; cases h; exact ⟨_, _, rfl, ok, rfl⟩
    · cases h
  · cases h

/-! ### sorted of a list -/
def isTupNe : D → Bool
  | .tuple (_ :: _) => true
  | _ => false
def isTup : D → Bool
  | .tuple _ => true
  | _ => false
def sortOk (ds : List D) : Bool := ordOk ds && (ds.all isTupNe || ds.all fun d => !isTup d)
/-- Python's order of data (it is total; of data that are alike it is the program's own) -/
def dLe (a b : D) : Bool := !PySem.W.dataLt b a
theorem dLe_total (a b : D) : (dLe a b || dLe b a) = true := by
  unfold dLe PySem.W.dataLt
  cases h1 : PyProof.Rows.lexLt PyProof.Rows.itemOrd (PySem.W.keyToks b) (PySem.W.keyToks a) with
  | false => rfl
  | true =>
    cases h2 : PyProof.Rows.lexLt PyProof.Rows.itemOrd (PySem.W.keyToks a) (PySem.W.keyToks b) with
    | false => rfl
    | true =>
      have := PyProof.Rows.lex_trans _ _ _ h1 h2
      rw [PyProof.Rows.lex_irrefl] at this
      cases this
theorem dLe_trans (a b c : D) (h1 : dLe a b = true) (h2 : dLe b c = true) : dLe a c = true := by
  unfold dLe PySem.W.dataLt at *
  rw [Bool.not_eq_true'] at h1 h2 ⊢
  cases h : PyProof.Rows.lexLt PyProof.Rows.itemOrd (PySem.W.keyToks c) (PySem.W.keyToks a) with
  | false => rfl
  | true =>
    rcases PyProof.Rows.lex_negTrans _ (PySem.W.keyToks b) _ h with z | z
    · rw [h2] at z; cases z
    · rw [h1] at z; cases z
theorem dLe_eq : dLe = PySem.W.dataLe false (fun x : D => x) := by
  funext a b; rw [PySem.W.dataLe_eq]; rfl
/-- two rows put together -/
def dMrg : Nat → List D → List D → List D
  | 0, xs, _ => xs
  | _ + 1, [], ys => ys
  | _ + 1, x :: xs, [] => x :: xs
  | n + 1, x :: xs, y :: ys => if dLe x y then x :: dMrg n xs (y :: ys) else y :: dMrg n (x :: xs) ys
theorem dMrg_eq : ∀ (n : Nat) (xs ys : List D), xs.length + ys.length < n → dMrg n xs ys = xs.merge ys dLe
  | 0, _, _, h => by omega
  | n + 1, [], ys, _ => by rw [List.nil_merge]; rfl
  | n + 1, x :: xs, [], _ => by rw [List.merge_right]; rfl
  | n + 1, x :: xs, y :: ys, h => by
    simp only [List.length_cons] at h
    rw [dMrg, List.cons_merge_cons, dMrg_eq n xs (y :: ys) (by simp only [List.length_cons]; omega), dMrg_eq n (x :: xs) ys (by simp only [List.length_cons]; omega)]
def dSortF : Nat → List D → List D
  | 0, l => l
  | _ + 1, [] => []
  | _ + 1, [a] => [a]
  | n + 1, a :: b :: l => dMrg (l.length + 3) (dSortF n ((a :: b :: l).take ((l.length + 3) / 2))) (dSortF n ((a :: b :: l).drop ((l.length + 3) / 2)))
theorem dSortF_eq : ∀ (n : Nat) (l : List D), l.length ≤ n → dSortF n l = l.mergeSort dLe
  | 0, l, h => by
    have : l = [] := List.eq_nil_of_length_eq_zero (by omega)
    subst this
    rw [List.mergeSort_nil]; rfl
  | n + 1, [], _ => by rw [List.mergeSort_nil]; rfl
  | n + 1, [a], _ => by rw [List.mergeSort_singleton]; rfl
  | n + 1, a :: b :: l, h => by
    simp only [List.length_cons] at h
    have e1 := dSortF_eq n ((a :: b :: l).take ((l.length + 3) / 2)) (by rw [List.length_take, List.length_cons, List.length_cons]; omega)
    have e2 := dSortF_eq n ((a :: b :: l).drop ((l.length + 3) / 2)) (by rw [List.length_drop, List.length_cons, List.length_cons]; omega)
    rw [dSortF, e1, e2, dMrg_eq _ _ _ (by rw [List.length_mergeSort, List.length_mergeSort, List.length_take, List.length_drop, List.length_cons, List.length_cons]; omega)]
    conv => rhs; rw [List.mergeSort]
    simp only [List.MergeSort.Internal.splitInTwo, List.splitAt_eq, List.length_cons]
def dSort (l : List D) : List D := dSortF l.length l
theorem dSort_merge (ds : List D) : dSort ds = ds.mergeSort (PySem.W.dataLe false (fun x : D => x)) := by
  rw [← dLe_eq]
  exact dSortF_eq _ _ (Nat.le_refl _)
def opSorted : D → Option Rs
  | .list ds => if sortOk ds then some (.new (.list (dSort ds))) else none
  | _ => none
def rSortP (K : PySem.W.Frag) : List V → Hp → VK → Prop := fun vs H Q => ∃ a xs F ds, vs = [V.ref a] ∧ LR K H a xs ∧ Sub F H ∧ RpA K F xs ds ∧ sortOk ds = true ∧ ∀ ys p, RpA K F ys (dSort ds) → H p = none → Q (.ref p) (upd H p (.lst ys))
section
variable {X : Cx}
theorem each_of {K : PySem.W.Frag} {F : Hp} : ∀ {xs : List V} {ds : List D} {us : List Value}, RpA K F xs ds → Vals xs us → PySem.W.EachIs (fun u d => ∃ v, RelV v u ∧ Rp K F v d) us ds
  | _, _, _, .nil, .nil => .nil
  | _, _, _, .cons a b, .cons r t => .cons ⟨_, r, a⟩ (each_of b t)
theorem of_each {K : PySem.W.Frag} {F : Hp} : ∀ {ds : List D} {us : List Value}, PySem.W.EachIs (fun u d => ∃ v, RelV v u ∧ Rp K F v d) us ds → ∃ xs, Vals xs us ∧ RpA K F xs ds
  | _, _, .nil => ⟨[], .nil, .nil⟩
  | _, _, .cons ⟨v, r, a⟩ t => by
    obtain ⟨xs, h1, h2⟩ := of_each t
    exact ⟨v :: xs, .cons r h1, .cons a h2⟩
theorem depthOf {ds : List D} : ∀ {d : D}, d ∈ ds → d.depth ≤ PyData.depthAll ds := fun {d} h => by
  induction ds with
  | nil => cases h
  | cons x xs ih =>
    simp only [PyData.depthAll]
    rcases List.mem_cons.mp h with rfl | h
    · omega
    · have := ih h; omega
theorem sortOk_un {ds : List D} (h : sortOk ds = true) : PyData.plainAll ds = true ∧ PySem.W.AllAlike ds ∧ PySem.W.Sortable ds ∧ PyData.depthAll ds ≤ 64 := by
  unfold sortOk at h
  rw [Bool.and_eq_true, Bool.or_eq_true] at h
  obtain ⟨p1, p2, p3⟩ := ordOk_un h.1
  refine ⟨p1, p2.1, ?_, p3⟩
  rcases h.2 with h | h
  · refine .inl fun d hd => ?_
    have := List.all_eq_true.mp h d hd
    unfold isTupNe at this
    split at this
    · exact ⟨_, _, rfl⟩
    · cases this
  · refine .inr fun d hd => ⟨p2.2 d hd, fun xs e => ?_⟩
    have := List.all_eq_true.mp h d hd
    rw [e] at this
    simp [isTup] at this
theorem cr_sortP (hu : Rm X) : CallR X (.builtin "sorted") (rSortP X.K) := by
  intro pins s σ H vs us Q I r h
  obtain ⟨a, xs, F, ds, rfl, e, sF, rr, ok, q⟩ := h
  obtain ⟨p1, p2, p3, p4⟩ := sortOk_un ok
  rw [Vals.ref1 r]
  obtain ⟨its, rv, hl, hz⟩ := I.list (LR.sq e)
  obtain ⟨as, hr⟩ := (rr.sub sF).reads I p1 rv
  have hlen := rr.length
  have hmap : ds.map id = ds := by simp
  refine PySem.W.sorted_data (enc := id) (R := fun u d => ∃ v, RelV v u ∧ Rp X.K F v d) hl.isList (each_of rr rv) (PySem.W.readsAll_each id (by rw [hmap]; exact hr)) (by rw [hmap]; exact p2) (by rw [hmap]; exact p3) (by omega)
    (fun b hb => by have := depthOf hb; unfold Rm at hu; show X.A.units + 2 + b.depth < cLine; omega) fun out ho he => ?_
  have he' : PySem.W.EachIs (fun u d => ∃ v, RelV v u ∧ Rp X.K F v d) out (dSort ds) := by rw [dSort_merge]; exact he
  obtain ⟨ys, rv2, rp⟩ := of_each he'
  obtain ⟨cc, hc⟩ := sortedAll_at s.heap its out.toArray
  have hly := rv2.length
  refine ⟨.ref (s.heap.objs.size + 1), _, I.laid (t' := s.toks) (a := s.heap.objs.size + 1) (o := .lst ys) (fun _ _ => sortedAll_old) (Nat.le_succ _) ⟨by omega, out, cc, rv2, hc⟩, rfl, q ys _ rp (I.hok.fresh (Nat.le_succ _))⟩
end
theorem ok_sorted {K : PySem.W.Frag} : UnOk K (rSortP K) opSorted := by
  intro c F H σ env x d res g ox h Q q
  unfold opSorted at h
  split at h
  · split at h
    · rename_i ok
      cases h
      obtain ⟨a, xs, rfl, e, r⟩ := ox.list g.sub
      refine ⟨a, xs, F, _, rfl, e, g.sub, r, ok, fun ys p rp hp => ?_⟩
      obtain ⟨g', rr⟩ := g.laidNew hp (.lst upd_same rp)
      exact q _ _ _ g' (Same.refl F) rr
    · cases h
  · cases h
end Ev
set_option Elab.async false
set_option linter.all false
set_option maxRecDepth 100000
set_option maxHeartbeats 1000000
/-! Ev9: displays, slices, list(), tuple(), dict(). -/
namespace Ev
open PySem PySem.Spec PyProof.Rows L2

/-! ### items of a display: each is frozen -/
abbrev AD := Env → Option (List D × Env)
def tAD (K : PySem.W.Frag) (f : AD) : TA := fun σ H Q => ∃ c F env ds env', G K c F H σ env ∧ f env = some (ds, env') ∧ ∀ vs F' H', G K c F' H' σ env' → Same F F' → RpA K F' vs ds → Q vs H'
abbrev JAD (X : Cx) (es : List Expr) (f : AD) : Prop := PA X es (tAD X.K f)
theorem _root_.L2.PA.imp {X : Cx} {e : List Expr} {t t' : TA} (h : PA X e t) (i : ∀ σ H Q, t' σ H Q → t σ H Q) : PA X e t' := ⟨fun p pins s σ H Q I hw => h.run p pins s σ H Q I (i σ H Q hw)⟩
def adNil : AD := fun e => some ([], e)
def adCons (f : E) (g : AD) : AD := fun e => do
  let (r, e1) ← f e
  let (d, e2) ← take r e1
  let (ds, e3) ← g e2
  pure (d :: ds, e3)
def eList (f : AD) : E := fun e => do
  let (ds, e1) ← f e
  if ds.length ≤ sizeLine then pure (.new (.list ds), e1) else none
def eTup (f : AD) : E := fun e => do
  let (ds, e1) ← f e
  if ds.length ≤ sizeLine then pure (.shr (.tuple ds), e1) else none
section
variable {X : Cx} {a : Expr} {es : List Expr} {fa : E} {fs : AD} {pos : Pos}
theorem jad_nil : JAD X [] adNil := pa_nil.imp fun σ H Q w => by
  obtain ⟨c, F, env, ds, env', g, hf, q⟩ := w
  cases hf
  exact q [] F H g (Same.refl F) .nil
theorem jad_cons (ha : JE X a fa) (hr : JAD X es fs) (hs : starEach (a :: es) X.env = (false, eval a X.env) :: starEach es X.env := by rfl) : JAD X (a :: es) (adCons fa fs) := (pa_cons ha hr hs).imp fun σ H Q w => by
  obtain ⟨c, F, env, ds, env', g, hf, q⟩ := w
  simp only [adCons, bind, Option.bind_eq_some_iff, pure, Option.some.injEq] at hf
  obtain ⟨⟨r, e1⟩, h1, ⟨d, e2⟩, h2, ⟨ds', e3⟩, h3, e⟩ := hf
  cases e
  refine ⟨c, F, env, r, e1, g, h1, fun v F1 H1 g1 s1 r1 => ?_⟩
  obtain ⟨F2, g2, s2, r2⟩ := take_ok g1 r1 h2
  exact ⟨c, F2, e2, ds', _, g2, h3, fun vs F3 H3 g3 s3 r3 => q (v :: vs) F3 H3 g3 ((s1.trans s2).trans s3) (.cons (r2.mono s3) r3)⟩
theorem je_list (h : JAD X es fs) : JE X (.List es pos) (eList fs) := (pe_lst h).imp fun σ H Q w => by
  obtain ⟨c, F, env, r, env', g, hf, q⟩ := w
  simp only [eList, bind, Option.bind_eq_some_iff] at hf
  obtain ⟨⟨ds, e1⟩, h1, h2⟩ := hf
  split at h2
  · rename_i hl
    cases h2
    refine ⟨c, F, env, ds, _, g, h1, fun vs F1 H1 g1 s1 r1 => ⟨by rw [r1.length]; exact hl, fun p hp => ?_⟩⟩
    obtain ⟨g2, r2⟩ := g1.laidNew hp (.lst upd_same r1)
    exact q _ _ _ g2 s1 r2
  · cases h2
theorem je_tup {x1} (h : JAD X es fs) : JE X (.Tuple es x1 pos) (eTup fs) := (pe_tup h).imp fun σ H Q w => by
  obtain ⟨c, F, env, r, env', g, hf, q⟩ := w
  simp only [eTup, bind, Option.bind_eq_some_iff] at hf
  obtain ⟨⟨ds, e1⟩, h1, h2⟩ := hf
  split at h2
  · rename_i hl
    cases h2
    refine ⟨c, F, env, ds, _, g, h1, fun vs F1 H1 g1 s1 r1 => ⟨by rw [r1.length]; exact hl, fun p hp => ?_⟩⟩
    obtain ⟨F2, g2, s2, r2⟩ := g1.laidTup hp r1
    exact q _ _ _ g2 (s1.trans s2) r2
  · cases h2
end

/-! ### list(x), tuple(x), dict(x) -/
def keysD (kvs : List (D × D)) : List D := kvs.map (·.1)
def opList : D → Option Rs
  | .list ds => some (.new (.list ds))
  | .tuple ds => if ds.all scalD then some (.new (.list ds)) else none
  | .dict kvs => if kindOf kvs != 2 then some (.new (.list (keysD kvs))) else none
  | _ => none
section
variable {K : PySem.W.Frag} {F H : Hp}
theorem CstA.scals : ∀ {vs : List V} {ds : List D}, CstA K vs ds → ds.all scalD = true → RpA K F vs ds
  | _, _, .nil, _ => .nil
  | _, _, .cons a b, h => by
    rw [List.all_cons, Bool.and_eq_true] at h
    exact .cons (a.scal h.1) (b.scals h.2)
theorem kV_kD (k : Key) : Rp K F (kV k) (kD k) := by cases k with | inl i => exact .int i | inr x => exact .str x
theorem RpK.keys : ∀ {kvs : List (Key × V)} {ds : List (D × D)}, RpK K F kvs ds → RpA K F (kvs.map fun kv => kV kv.1) (keysD ds)
  | _, _, .nil => .nil
  | _, _, .cons _ h => .cons (kV_kD _) (RpK.keys h)
end
abbrev rList3 (K : PySem.W.Frag) : List V → Hp → VK → Prop := fun xs H Q => (∃ p ys, xs = [V.ref p] ∧ (SqL K H p ys ∨ SqT K H p ys) ∧ ∀ l, H l = none → Q (.ref l) (upd H l (.lst ys))) ∨
  ∃ (a : Addr) (kvs : List (Key × V)), xs = [.ref a] ∧ Rd H a (.dK kvs) ∧ ∀ p, H p = none → Q (.ref p) (upd H p (.lst (kvs.map fun kv => kV kv.1)))
theorem call_list3 {X : Cx} (hc : X.calm = true) : CallR X (.type "list") (rList3 X.K) := call_list_of.or (call_listD hc)
theorem ok_list {K : PySem.W.Frag} : UnOk K (rList3 K) opList := by
  intro c F H σ env x d res g ox h Q q
  unfold opList at h
  split at h
  · cases h
    obtain ⟨a, xs, rfl, e, r⟩ := ox.list g.sub
    refine .inl ⟨a, xs, rfl, .inl e.sq, fun p hp => ?_⟩
    obtain ⟨g2, r2⟩ := g.laidNew hp (.lst upd_same r)
    exact q _ _ _ g2 (Same.refl F) r2
  · split at h
    · rename_i hs
      cases h
      obtain ⟨a, xs, rfl, e, r⟩ := ox.tuple g.sub
      have r' : RpA K F xs _ := r.elim id fun r => r.scals hs
      refine .inl ⟨a, xs, rfl, .inr e, fun p hp => ?_⟩
      obtain ⟨g2, r2⟩ := g.laidNew hp (.lst upd_same r')
      exact q _ _ _ g2 (Same.refl F) r2
    · cases h
  · split at h
    · rename_i hk
      cases h
      rcases ox.dict g.sub with ⟨a, kv, rfl, e, r⟩ | ⟨a, kv, rfl, n, e, r⟩
      · refine .inr ⟨a, kv, rfl, e, fun p hp => ?_⟩
        obtain ⟨g2, r2⟩ := g.laidNew hp (.lst upd_same r.keys)
        exact q _ _ _ g2 (Same.refl F) r2
      · simp [r.kind n] at hk
    · cases h
  · cases h
def opTuple : D → Option Rs
  | .list ds => some (.shr (.tuple ds))
  | .tuple ds => if ds.all scalD then none else none
  | _ => none
section
variable {X : Cx} {a : Expr} {fa : E} {p pos : Pos}
theorem je_tuple (B : Bl X.mg) (ha : JE X a fa) (hg : Gl X "tuple" := by rfl) (na : starEach [a] X.env = (false, eval a X.env) :: starEach [] X.env := by rfl) : JE X (.Call (.Name "tuple" p) [a] [] pos) (eUn opTuple fa) :=
  (pe_tupleOf hg B.tuple ha na).imp fun σ H Q w => by
    obtain ⟨c, F, env, res, env', g, hf, q⟩ := w
    simp only [eUn, bind, Option.bind_eq_some_iff, pure, Option.some.injEq] at hf
    obtain ⟨⟨ra, e1⟩, ha, d, hd, r', hr, e⟩ := hf
    cases e
    refine ⟨c, F, env, ra, _, g, ha, fun v F1 H1 g1 s1 r1 => ?_⟩
    have ox := look_ok g1 r1 hd
    unfold opTuple at hr
    split at hr
    · cases hr
      obtain ⟨b, xs, rfl, e, r⟩ := ox.list g1.sub
      refine .inl ⟨b, xs, rfl, e.sq, fun p hp => ?_⟩
      obtain ⟨F2, g2, s2, r2⟩ := g1.laidTup hp r
      exact q _ _ _ g2 (s1.trans s2) r2
    · split at hr <;> cases hr
    · cases hr
end
def opDict : D → Option Rs
  | .dict kvs => if kindOf kvs != 2 then some (.new (.dict kvs)) else none
  | _ => none
theorem ok_dict {K : PySem.W.Frag} : UnOk K (fun xs H Q => ∃ (a : Addr) (kvs : List (Key × V)), xs = [V.ref a] ∧ Rd H a (.dK kvs) ∧ ∀ p, H p = none → Q (.ref p) (upd H p (.dK kvs))) opDict := by
  intro c F H σ env x d res g ox h Q q
  unfold opDict at h
  split at h
  · split at h
    · rename_i hk
      cases h
      rcases ox.dict g.sub with ⟨a, kv, rfl, e, r⟩ | ⟨a, kv, rfl, n, e, r⟩
      · refine ⟨a, kv, rfl, e, fun p hp => ?_⟩
        obtain ⟨g2, r2⟩ := g.laidNew hp (.dK upd_same r)
        exact q _ _ _ g2 (Same.refl F) r2
      · simp [r.kind n] at hk
    · cases h
  · cases h

/-! ### xs[a:b], xs[::-1] -/
abbrev O := Env → Option (Option Int × Env)
def tO (K : PySem.W.Frag) (f : O) : TO := fun σ H Q => ∃ c F env o env', G K c F H σ env ∧ f env = some (o, env') ∧ ∀ F' H', G K c F' H' σ env' → Same F F' → Q o H'
abbrev JO (X : Cx) (e : Option Expr) (f : O) : Prop := PO X e (tO X.K f)
def oNone : O := fun e => some (none, e)
def oSome (f : E) : O := fun e => do
  let (r, e1) ← f e
  match look r e1 with
  | some (.int i) => pure (some i, e1)
  | _ => none
def cutD (ds : List D) (lo hi : Option Int) : List D := (ds.drop (HT.sIx ds.length 0 lo)).take (HT.sIx ds.length ds.length hi - HT.sIx ds.length 0 lo)
def opSlice : D → Option Int → Option Int → Option Rs
  | .list ds, lo, hi => some (.new (.list (cutD ds lo hi)))
  | .tuple ds, lo, hi => if ¬ (HT.sIx ds.length 0 lo = 0 ∧ HT.sIx ds.length ds.length hi = ds.length) ∧ ds.all scalD then some (.shr (.tuple (cutD ds lo hi))) else none
  | .str z, lo, hi => if z.length ≤ sizeLine then some (.shr (.str (L2.cutS z lo hi))) else none
  | _, _, _ => none
def eSlice (f : E) (lo hi : O) : E := fun e => do
  let (r, e1) ← f e
  let (l, e2) ← lo e1
  let (h, e3) ← hi e2
  let d ← look (settle r) e3
  let res ← opSlice d l h
  pure (res, e3)
def opRev : D → Option Rs
  | .list ds => some (.new (.list ds.reverse))
  | _ => none
theorem RpA.cut {K : PySem.W.Frag} {F : Hp} {xs : List V} {ds : List D} (h : RpA K F xs ds) (lo hi : Option Int) : RpA K F (cutV xs lo hi) (cutD ds lo hi) := by
  unfold cutV cutD
  rw [h.length]
  exact (h.drop _).take _
section
variable {X : Cx} {a : Expr} {lo hi : Option Expr} {fa : E} {fl fh : O} {pos p2 : Pos}
theorem jo_none : JO X none oNone := ⟨fun pins s σ H Q I w => by
  refine po_none.run pins s σ H Q I ?_
  obtain ⟨c, F, env, o, env', g, hf, q⟩ := w
  cases hf
  exact q F H g (Same.refl F)⟩
theorem jo_some (ha : JE X a fa) : JO X (some a) (oSome fa) := ⟨fun pins s σ H Q I w => by
  refine (po_some ha).run pins s σ H Q I ?_
  obtain ⟨c, F, env, o, env', g, hf, q⟩ := w
  simp only [oSome, bind, Option.bind_eq_some_iff] at hf
  obtain ⟨⟨r, e1⟩, h1, h2⟩ := hf
  split at h2
  · rename_i i hl
    cases h2
    refine ⟨c, F, env, r, _, g, h1, fun v F' H' g' s' rr => ?_⟩
    cases (look_ok g' rr hl).int
    exact ⟨i, rfl, q F' H' g' s'⟩
  · cases h2⟩
theorem je_slice (ha : JE X a fa) (hl : JO X lo fl) (hh : JO X hi fh) : JE X (.Subscript a (.Slice lo hi none p2) pos) (eSlice fa fl fh) :=
  (pe_slice (sl_list.or (sl_tup.or sl_str)) ha hl hh).imp fun σ H Q w => by
    obtain ⟨c, F, env, res, env', g, hf, q⟩ := w
    simp only [eSlice, bind, Option.bind_eq_some_iff, pure, Option.some.injEq] at hf
    obtain ⟨⟨r, e1⟩, h1, ⟨l, e2⟩, h2, ⟨h, e3⟩, h3, d, hd, r', hr, e⟩ := hf
    cases e
    refine ⟨c, F, env, r, e1, g, h1, fun v F1 H1 g1 s1 r1 => ?_⟩
    obtain ⟨F2, g2, s2, r2⟩ := settle_ok g1 r1
    refine ⟨c, F2, e1, l, e2, g2, h2, fun F3 H3 g3 s3 => ⟨c, F3, e2, h, _, g3, h3, fun F4 H4 g4 s4 => ?_⟩⟩
    have ss := (((s1.trans s2).trans s3).trans s4)
    have ox := look_ok g4 (r2.keep (settle_settled r) (s3.trans s4)) hd
    unfold opSlice at hr
    split at hr
    · cases hr
      obtain ⟨b, xs, rfl, e, rr⟩ := ox.list g4.sub
      refine .inl ⟨b, xs, rfl, e.sq, fun p hp => ?_⟩
      obtain ⟨g5, r5⟩ := g4.laidNew hp (.lst upd_same (rr.cut l h))
      exact q _ _ _ g5 ss r5
    · split at hr
      · rename_i hc
        cases hr
        obtain ⟨b, xs, rfl, e, rr⟩ := ox.tuple g4.sub
        have rr' : RpA X.K F4 xs _ := rr.elim id fun rr => rr.scals hc.2
        have hlen := rr'.length
        refine .inr (.inl ⟨b, xs, rfl, e, by rw [hlen]; exact hc.1, fun p hp => ?_⟩)
        obtain ⟨F5, g5, s5, r5⟩ := g4.laidTup hp (rr'.cut l h)
        exact q _ _ _ g5 (ss.trans s5) r5
      · cases hr
    · split at hr
      · rename_i hz
        cases hr
        cases ox.str
        exact .inr (.inr ⟨_, rfl, hz, q _ _ _ g4 ss (.str _)⟩)
      · cases hr
    · cases hr
theorem je_rev {k : Nat} {p1 p2 p3 : Pos} (ha : JE X a fa) : JE X (.Subscript a (.Slice none none (some (.UnaryOp .USub (.Constant (.int 1) k p1) p2)) p3) pos) (eUn opRev fa) := (pe_revL ha).imp fun σ H Q w => by
  obtain ⟨c, F, env, res, env', g, hf, q⟩ := w
  simp only [eUn, bind, Option.bind_eq_some_iff, pure, Option.some.injEq] at hf
  obtain ⟨⟨ra, e1⟩, ha, d, hd, r', hr, e⟩ := hf
  cases e
  refine ⟨c, F, env, ra, _, g, ha, fun v F1 H1 g1 s1 r1 => ?_⟩
  have ox := look_ok g1 r1 hd
  unfold opRev at hr
  split at hr
  · cases hr
    obtain ⟨b, xs, rfl, e, r⟩ := ox.list g1.sub
    refine ⟨b, xs, rfl, e.sq, fun p hp => ?_⟩
    obtain ⟨g2, r2⟩ := g1.laidNew hp (.lst upd_same r.reverse)
    exact q _ _ _ g2 s1 r2
  · cases hr
end
end Ev
set_option Elab.async false
set_option linter.all false
set_option maxRecDepth 100000
set_option maxHeartbeats 1000000
/-! Ev10: statements. -/
namespace Ev
open PySem PySem.Spec PyProof.Rows L2

def ioAt (e : Env) (i : Nat) : Bool := match e[i]? with
  | some (.io _) => true
  | some (.lk _) => true
  | _ => false

theorem ioAt_frz {e : Env} {i j : Nat} {d : D} (h : ioAt e j = false) : ioAt (e.set i (.frz d)) j = false := by
  unfold ioAt at h ⊢
  by_cases hj : i = j
  · subst hj
    by_cases hi : i < e.length
    · rw [List.getElem?_set_self hi]
    · rw [List.set_eq_of_length_le (by omega)]; exact h
  · rw [List.getElem?_set_ne hj]; exact h
section
variable {K : PySem.W.Frag} {c : Ctx} {F H : Hp} {σ : L2.St} {env : Env} {d : D}
/-- a slot is stored anew -/
theorem G.storeSl (g : G K c F H σ env) {i : Nat} {v : V} {sl : Slot} (hs : SlotOk K c F H (some v) sl)
    (hm : sl.mine = true → c.tmp (match v with | .ref a => a | _ => 0) = none ∧ ∀ (j : Nat) (s : Slot), env[j]? = some s → s.mine = true → σ[j]? ≠ some (some v))
    (hl : ∀ d, sl ≠ .lk d) (hio : ioAt env i = false) : G K c F H (σ.set i (some v)) (env.set i sl) := by
  by_cases hi : i < env.length
  · have hiσ : i < σ.length := by rw [g.len]; exact hi
    have get : ∀ (m : Nat) (s : Slot), (env.set i sl)[m]? = some s → (m = i ∧ s = sl) ∨ (m ≠ i ∧ env[m]? = some s) := fun m s e => by
      by_cases hmi : m = i
      · subst hmi; rw [List.getElem?_set_self hi] at e; cases e; exact .inl ⟨rfl, rfl⟩
      · rw [List.getElem?_set_ne (Ne.symm hmi)] at e; exact .inr ⟨hmi, e⟩
    have getσ : ∀ (m : Nat), m ≠ i → (σ.set i (some v))[m]? = σ[m]? := fun m e => List.getElem?_set_ne (Ne.symm e)
    have selfσ : (σ.set i (some v))[i]? = some (some v) := List.getElem?_set_self hiσ
    refine g.slots (by rw [List.length_set, List.length_set]; exact g.len) (fun j s o es ev => ?_) (fun j k s t u hjk e1 e2 m1 m2 ev => ?_) (fun j s b es m ev => ?_) (fun j d es => ?_) fun j d es => (List.getElem?_set_ne (fun z => by
        have : ioAt env i = true := by unfold ioAt; rw [z, es]
        rw [hio] at this; cases this)).trans es
    · rcases get j s es with ⟨rfl, rfl⟩ | ⟨hj, es'⟩
      · rw [selfσ] at ev; cases ev; exact hs
      · rw [getσ j hj] at ev; exact g.slot j s o es' ev
    · rcases get j s e1 with ⟨rfl, rfl⟩ | ⟨hj, e1'⟩
      · rw [selfσ] at ev; cases ev
        rcases get k t e2 with ⟨rfl, _⟩ | ⟨hk, e2'⟩
        · exact absurd rfl hjk
        · rw [getσ k hk]; exact (hm m1).2 k t e2' m2
      · rw [getσ j hj] at ev
        rcases get k t e2 with ⟨rfl, rfl⟩ | ⟨hk, e2'⟩
        · rw [selfσ]
          intro z
          cases z
          exact (hm m2).2 j s e1' m1 ev
        · rw [getσ k hk]; exact g.dist j k s t u hjk e1' e2' m1 m2 ev
    · rcases get j s es with ⟨rfl, rfl⟩ | ⟨hj, es'⟩
      · rw [selfσ] at ev; cases ev; exact (hm m).1
      · rw [getσ j hj] at ev; exact g.tmpNo es' m ev
    · rcases get j _ es with ⟨rfl, z⟩ | ⟨hj, es'⟩
      · exact absurd z.symm (hl d)
      · exact ⟨es', getσ j hj⟩
  · rw [List.set_eq_of_length_le (l := σ) (by rw [g.len]; omega), List.set_eq_of_length_le (l := env) (by omega)]; exact g
theorem G.storeFrz (g : G K c F H σ env) {i : Nat} {v : V} (r : Rp K F v d) (hio : ioAt env i = false) : G K c F H (σ.set i (some v)) (env.set i (.frz d)) :=
  g.storeSl ⟨v, rfl, r⟩ (fun m => by cases m) (fun _ z => by cases z) hio
theorem G.storeOwn (g : G K c F H σ env) {i : Nat} {v : V} (r : RsOk K c F H σ env v (.new d)) (hio : ioAt env i = false) : G K c F H (σ.set i (some v)) (env.set i (.own d)) := by
  obtain ⟨a, rfl, hF, h0, ob, hn⟩ := r
  exact g.storeSl ⟨a, rfl, hF, h0.1, ob⟩ (fun _ => ⟨h0.2, hn⟩) (fun _ z => by cases z) hio
end

/-- name = a result -/
def store (i : Nat) (r : Rs) (e : Env) : Option Env := match r with
  | .new d => if ioAt e i then none else some (e.set i (.own d))
  | r => do
    let (d, e1) ← take r e
    if ioAt e1 i then none else pure (e1.set i (.frz d))
theorem store_okS {K : PySem.W.Frag} {c : Ctx} {F H : Hp} {σ : L2.St} {env env' : Env} {i : Nat} {v : V} {r : Rs} (g : G K c F H σ env) (h : RsOk K c F H σ env v r) (e : store i r env = some env') : ∃ F', G K c F' H (σ.set i (some v)) env' ∧ Same F F' := by
  unfold store at e
  split at e
  · split at e
    · cases e
    · rename_i hio
      cases e
      exact ⟨F, g.storeOwn h (by simpa using hio), Same.refl F⟩
  · simp only [bind, Option.bind_eq_some_iff] at e
    obtain ⟨⟨d, e1⟩, h1, e⟩ := e
    split at e
    · cases e
    · rename_i hio
      cases e
      obtain ⟨F2, g2, s2, r2⟩ := take_ok g h h1
      exact ⟨F2, g2.storeFrz r2 (by simpa using hio), s2⟩

/-! ### blocks -/
def sNil : S := fun e => some (.nx e)
def sSeq (f g : S) : S := fun e => do
  let o ← f e
  match o with
  | .nx e1 => g e1
  | o => pure o
def sAsg (i : Nat) (f : E) : S := fun e => do
  let (r, e1) ← f e
  let e2 ← store i r e1
  pure (.nx e2)
def sExpr (f : E) : S := fun e => do
  let (_, e1) ← f e
  pure (.nx e1)
def sRet (f : E) : S := fun e => do
  let (r, e1) ← f e
  pure (.rt r e1)
def sRetN : S := fun e => some (.rt (.shr .none) e)
def sIf (t : T) (f g : S) : S := fun e => do
  let (b, e1) ← t e
  if b then f e1 else g e1
def sBreak : S := fun e => some (.bk e)
def sCont : S := fun e => some (.ct e)

section
variable {X : Cx} {a : Expr} {fa : E} {ta : T} {st : Stmt} {sts rest : List Stmt} {f g : S} {pos : Pos}
theorem Post.mono {K : PySem.W.Frag} {c : Ctx} {F F1 : Hp} {Dn : Ends} {o : Out} (s : Same F F1) (h : Post K c F Dn o) : Post K c F1 Dn o := by
  cases o with
  | nx e => exact fun σ' F' H' g' s' => h σ' F' H' g' (s.trans s')
  | rt r e => exact fun v σ' F' H' g' s' => h v σ' F' H' g' (s.trans s')
  | bk e => exact fun σ' F' H' g' s' => h σ' F' H' g' (s.trans s')
  | ct e => exact fun σ' F' H' g' s' => h σ' F' H' g' (s.trans s')
theorem jss_nil : JSs X [] sNil := pss_nil.imp fun Dn σ H w => by
  obtain ⟨c, F, env, o, g, hf, q⟩ := w
  cases hf
  exact q σ F H g (Same.refl F)
theorem jss_cons (h1 : JS X st f) (h2 : JSs X rest g) : JSs X (st :: rest) (sSeq f g) := (pss_cons h1 h2).imp fun Dn σ H w => by
  obtain ⟨c, F, env, o, g0, hf, q⟩ := w
  simp only [sSeq, bind, Option.bind_eq_some_iff] at hf
  obtain ⟨o1, h1, h2⟩ := hf
  refine ⟨c, F, env, o1, g0, h1, ?_⟩
  cases o1 with
  | nx e1 => exact fun σ' F' H' g' s' => ⟨c, F', e1, o, g', h2, q.mono s'⟩
  | rt r e => cases h2; exact q
  | bk e => cases h2; exact q
  | ct e => cases h2; exact q
theorem jss_one (h1 : JS X st f) : JSs X [st] f := (pss_one h1).imp fun Dn σ H w => w
theorem js_pass : JS X (.Pass pos) sNil := ps_pass.imp fun Dn σ H w => by
  obtain ⟨c, F, env, o, g, hf, q⟩ := w
  cases hf
  exact q σ F H g (Same.refl F)
theorem js_break : JS X (.Break pos) sBreak := ps_break.imp fun Dn σ H w => by
  obtain ⟨c, F, env, o, g, hf, q⟩ := w
  cases hf
  exact q σ F H g (Same.refl F)
theorem js_cont : JS X (.Continue pos) sCont := ps_continue.imp fun Dn σ H w => by
  obtain ⟨c, F, env, o, g, hf, q⟩ := w
  cases hf
  exact q σ F H g (Same.refl F)
theorem js_doc {x j pos pos'} : JS X (.Expr (.Constant (.str x) j pos) pos') sNil := ps_doc.imp fun Dn σ H w => by
  obtain ⟨c, F, env, o, g, hf, q⟩ := w
  cases hf
  exact q σ F H g (Same.refl F)
theorem asg_ok {i : Nat} {te : TE} {σ : L2.St} {H : Hp} {Dn : Ends} (w : tS X.K (sAsg i fa) Dn σ H) : tAsg (tE X.K fa) (gName i) Dn σ H := by
  obtain ⟨c, F, env, o, g, hf, q⟩ := w
  simp only [sAsg, bind, Option.bind_eq_some_iff, pure, Option.some.injEq] at hf
  obtain ⟨⟨r, e1⟩, h1, e2, h2, e⟩ := hf
  cases e
  refine ⟨c, F, env, r, e1, g, h1, fun v F1 H1 g1 s1 r1 => ?_⟩
  obtain ⟨F2, g2, s2⟩ := store_okS g1 r1 h2
  exact q _ F2 H1 g2 (s1.trans s2)
theorem js_asg {i : Nat} {x : Str} {pos' : Pos} (hN : X.N.Nodup) (ha : JE X a fa) (hi : X.N[i]? = some x := by rfl) (hx : Loc X.env.scope x := by first | exact Or.inl rfl | exact Or.inr rfl) (hs : swapsWith a (some (.Name x pos')) pos.line X.env = pure false := by rfl)
    (hf : X.fn x = true ∨ X.env.scope.names.lookup x = some .local := by first | exact .inl rfl | exact .inr rfl) : JS X (.Assign [.Name x pos'] a pos) (sAsg i fa) :=
  (ps_set hN hi hx ha hs hf).imp fun Dn σ H w => asg_ok (te := tE X.K fa) w
theorem js_expr (ha : JE X a fa) (hs : swapsWith a none pos.line X.env = pure false := by rfl) : JS X (.Expr a pos) (sExpr fa) := (ps_expr ha hs).imp fun Dn σ H w => by
  obtain ⟨c, F, env, o, g, hf, q⟩ := w
  simp only [sExpr, bind, Option.bind_eq_some_iff, pure, Option.some.injEq] at hf
  obtain ⟨⟨r, e1⟩, h1, e⟩ := hf
  cases e
  exact ⟨c, F, env, r, e1, g, h1, fun v F1 H1 g1 s1 r1 => q σ F1 H1 g1 s1⟩
theorem js_ret (ha : JE X a fa) : JS X (.Return (some a) pos) (sRet fa) := (ps_ret ha).imp fun Dn σ H w => by
  obtain ⟨c, F, env, o, g, hf, q⟩ := w
  simp only [sRet, bind, Option.bind_eq_some_iff, pure, Option.some.injEq] at hf
  obtain ⟨⟨r, e1⟩, h1, e⟩ := hf
  cases e
  exact ⟨c, F, env, r, e1, g, h1, fun v F1 H1 g1 s1 r1 => q v σ F1 H1 g1 s1 r1⟩
theorem js_retN : JS X (.Return none pos) sRetN := ps_retN.imp fun Dn σ H w => by
  obtain ⟨c, F, env, o, g, hf, q⟩ := w
  cases hf
  exact q .non σ F H g (Same.refl F) .non
theorem js_if {sa sb : List Stmt} (hc : JT X a ta) (ha : JSs X sa f) (hb : JSs X sb g) : JS X (.If a sa sb pos) (sIf ta f g) := (ps_if hc ha hb).imp fun Dn σ H w => by
  obtain ⟨c, F, env, o, g0, hf, q⟩ := w
  simp only [sIf, bind, Option.bind_eq_some_iff] at hf
  obtain ⟨⟨b, e1⟩, h1, h2⟩ := hf
  refine ⟨c, F, env, b, e1, g0, h1, fun F' H' g' s' => ?_⟩
  cases b with
  | true => exact iteT ⟨c, F', e1, o, g', h2, q.mono s'⟩
  | false => exact iteF ⟨c, F', e1, o, g', h2, q.mono s'⟩
end

/-! ### targets -/
abbrev TgE := D → Env → Option Env
/-- only the slots ws were stored -/
def Off (ws : List Nat) (σ σ' : L2.St) : Prop := σ'.length = σ.length ∧ ∀ j, j ∉ ws → σ'[j]? = σ[j]?
theorem Off.trans {a b : List Nat} {σ σ' σ'' : L2.St} (h : Off a σ σ') (h' : Off b σ' σ'') : Off (a ++ b) σ σ'' :=
  ⟨h'.1.trans h.1, fun j hj => (h'.2 j fun z => hj (List.mem_append_right _ z)).trans (h.2 j fun z => hj (List.mem_append_left _ z))⟩
def tG (K : PySem.W.Frag) (g : TgE) (ws : List Nat) : TG := fun v σ H Q => ∃ c F env d env', G K c F H σ env ∧ Rp K F v d ∧ g d env = some env' ∧ ∀ σ' F' H', Off ws σ σ' → G K c F' H' σ' env' → Same F F' → Q σ' H'
def tGs (K : PySem.W.Frag) (g : List D → Env → Option Env) (ws : List Nat) : TGs := fun vs σ H Q => ∃ c F env ds env', G K c F H σ env ∧ RpA K F vs ds ∧ g ds env = some env' ∧ ∀ σ' F' H', Off ws σ σ' → G K c F' H' σ' env' → Same F F' → Q σ' H'
abbrev JG (X : Cx) (e : Expr) (g : TgE) (ws : List Nat) : Prop := PG X e (tG X.K g ws)
abbrev JGs (X : Cx) (es : List Expr) (g : List D → Env → Option Env) (ws : List Nat) : Prop := PGs X es (tGs X.K g ws)
theorem _root_.L2.PG.imp {X : Cx} {e : Expr} {t t' : TG} (h : PG X e t) (i : ∀ v σ H Q, t' v σ H Q → t v σ H Q) : PG X e t' := ⟨fun pins s σ H v u Q I r hw => h.run pins s σ H v u Q I r (i v σ H Q hw)⟩
theorem _root_.L2.PGs.imp {X : Cx} {e : List Expr} {t t' : TGs} (h : PGs X e t) (i : ∀ v σ H Q, t' v σ H Q → t v σ H Q) : PGs X e t' := ⟨fun pins s σ H v u Q I r hw => h.run pins s σ H v u Q I r (i v σ H Q hw)⟩
def gNm (i : Nat) : TgE := fun d e => if ioAt e i then none else some (e.set i (.frz d))
def gsNil : List D → Env → Option Env := fun ds e => match ds with
  | [] => some e
  | _ => none
def gsCons (g : TgE) (gs : List D → Env → Option Env) : List D → Env → Option Env := fun ds e => match ds with
  | d :: r => do
    let e1 ← g d e
    gs r e1
  | [] => none
def gTp (n : Nat) (gs : List D → Env → Option Env) : TgE := fun d e => match d with
  | .tuple ds => if ds.length = n then gs ds e else none
  | _ => none
/-- target = e -/
def sAsgT (f : E) (g : TgE) : S := fun e => do
  let (r, e1) ← f e
  let (d, e2) ← take r e1
  let e3 ← g d e2
  pure (.nx e3)
section
variable {X : Cx} {a : Expr} {es : List Expr} {fa : E} {ga : TgE} {gs : List D → Env → Option Env} {ws ws' : List Nat} {pos : Pos}
theorem jg_nm (i : Nat) {x : Str} (hN : X.N.Nodup) (hi : X.N[i]? = some x := by rfl) (hx : Loc X.env.scope x := by first | exact Or.inl rfl | exact Or.inr rfl) (hf : X.fn x = true ∨ X.env.scope.names.lookup x = some .local := by first | exact .inl rfl | exact .inr rfl) : JG X (.Name x pos) (gNm i) [i] :=
  (pg_name (pos := pos) hN hi hx hf).imp fun v σ H Q w => by
    obtain ⟨c, F, env, d, env', g, r, hg, q⟩ := w
    unfold gNm at hg
    split at hg
    · cases hg
    · rename_i hio
      cases hg
      exact q _ F H ⟨List.length_set, fun j hj => List.getElem?_set_ne fun z => hj (by simp [z])⟩ (g.storeFrz r (by simpa using hio)) (Same.refl F)
theorem jgs_nil : JGs X [] gsNil [] := pgs_nil.imp fun v σ H Q w => by
  obtain ⟨c, F, env, d, env', g, r, hg, q⟩ := w
  unfold gsNil at hg
  split at hg
  · cases hg; cases r; exact ⟨rfl, q σ F H ⟨rfl, fun _ _ => rfl⟩ g (Same.refl F)⟩
  · cases hg
theorem jgs_cons (h1 : JG X a ga ws) (h2 : JGs X es gs ws') (hs : (assignEach (a :: es) X.env).map (·.2) = assign a X.env :: (assignEach es X.env).map (·.2) := by rfl) : JGs X (a :: es) (gsCons ga gs) (ws ++ ws') := (pgs_cons h1 h2 hs).imp fun v σ H Q w => by
  obtain ⟨c, F, env, d, env', g, r, hg, q⟩ := w
  unfold gsCons at hg
  split at hg
  · simp only [bind, Option.bind_eq_some_iff] at hg
    obtain ⟨e1, h1, h2⟩ := hg
    cases r with
    | cons ra rt => exact ⟨_, _, rfl, c, F, env, _, e1, g, ra, h1, fun σ' F' H' o' g' s' => ⟨c, F', e1, _, env', g', rt.mono s', h2, fun σ2 F2 H2 o2 g2 s2 => q σ2 F2 H2 (o'.trans o2) g2 (s'.trans s2)⟩⟩
  · cases hg
theorem jg_tup {k : Nat} {n : Nat} (hc : X.calm = true) (h : JGs X es gs ws) (hn : (assignEach es X.env).length = n := by rfl) (hst : (assignEach es X.env).findIdx? (·.1) = none := by rfl) : JG X (.Tuple es k pos) (gTp n gs) ws := (pg_tup hc h hn hst).imp fun v σ H Q w => by
  obtain ⟨c, F, env, d, env', g, r, hg, q⟩ := w
  unfold gTp at hg
  split at hg
  · split at hg
    · rename_i hl
      cases r with
      | tup e r => exact ⟨_, _, rfl, g.sub.sq e, by rw [r.length]; exact hl, c, F, env, _, env', g, r, hg, q⟩
    · cases hg
  · cases hg
theorem js_asgT {tg : Expr} (ha : JE X a fa) (hg : JG X tg ga ws) (hs : swapsWithSole [tg] a pos.line X.env = pure false := by rfl) (hw : swappedStores [tg] a X.env = pure none := by rfl)
    (h1 : (assignEach [tg] X.env).map (·.2) = [assign tg X.env] := by rfl) : JS X (.Assign [tg] a pos) (sAsgT fa ga) := (ps_asg ha hg hs hw h1).imp fun Dn σ H w => by
  obtain ⟨c, F, env, o, g, hf, q⟩ := w
  simp only [sAsgT, bind, Option.bind_eq_some_iff, pure, Option.some.injEq] at hf
  obtain ⟨⟨r, e1⟩, h1, ⟨d, e2⟩, h2, e3, h3, e⟩ := hf
  cases e
  refine ⟨c, F, env, r, e1, g, h1, fun v F1 H1 g1 s1 r1 => ?_⟩
  obtain ⟨F2, g2, s2, r2⟩ := take_ok g1 r1 h2
  exact ⟨c, F2, e2, d, e3, g2, r2, h3, fun σ' F' H' _ g' s' => q σ' F' H' g' ((s1.trans s2).trans s')⟩
/-- a, b = x, y -/
def sPar (i j : Nat) (f : AD) : S := fun e => do
  let (ds, e1) ← f e
  match ds with
  | [d1, d2] => if ioAt e1 i || ioAt e1 j then none else pure (.nx ((e1.set i (.frz d1)).set j (.frz d2)))
  | _ => none
theorem js_par {i j : Nat} {x y : Str} {b c : Expr} {fs : AD} {px py pt : Pos} {kt k2 pt2} (hc : X.calm = true) (hN : X.N.Nodup) (ha : JAD X [b, c] fs) (hi : X.N[i]? = some x := by rfl) (hj : X.N[j]? = some y := by rfl) (hij : i ≠ j := by decide)
    (hx : X.env.scope.names.lookup x = some .local := by rfl) (hy : X.env.scope.names.lookup y = some .local := by rfl)
    (hw : swappedStores [.Tuple [.Name x px, .Name y py] kt pt] (.Tuple [b, c] k2 pt2) X.env = pure (some [x, y]) := by rfl)
    (hs : swapsWithSole [.Tuple [.Name x px, .Name y py] kt pt] (.Tuple [b, c] k2 pt2) pos.line X.env = pure false := by rfl) :
    JS X (.Assign [.Tuple [.Name x px, .Name y py] kt pt] (.Tuple [b, c] k2 pt2) pos) (sPar i j fs) := (ps_par hc hN hi hj hij hx hy ha hw hs).imp fun Dn σ H w => by
  obtain ⟨c, F, env, o, g, hf, q⟩ := w
  simp only [sPar, bind, Option.bind_eq_some_iff] at hf
  obtain ⟨⟨ds, e1⟩, h1, h2⟩ := hf
  split at h2
  · rename_i d1 d2 hds
    split at h2
    · cases h2
    · rename_i hio
      cases h2
      simp only [Bool.or_eq_true, not_or, Bool.not_eq_true] at hio
      refine ⟨c, F, env, _, e1, g, h1, fun vs F1 H1 g1 s1 r1 => ?_⟩
      dsimp only at hds
      subst hds
      cases r1 with
      | cons ra rt => cases rt with
        | cons rb rt => cases rt; exact ⟨_, _, rfl, q _ F1 H1 ((g1.storeFrz ra hio.1).storeFrz rb (ioAt_frz hio.2)) s1⟩
  · cases h2
end
end Ev
set_option Elab.async false
set_option linter.all false
set_option maxRecDepth 100000
set_option maxHeartbeats 1000000
/-! Ev11: for, while. -/
namespace Ev
open PySem PySem.Spec PyProof.Rows L2

/-! ### one's own list is walked: it is locked -/
section
variable {K : PySem.W.Frag} {c : Ctx} {F H : Hp} {σ : L2.St} {env : Env}
abbrev Ctx.lock (c : Ctx) (i : Nat) (a : Addr) (o : HO) : Ctx := { c with tmp := upd c.tmp a o, lk := fun j => if j = i then some a else c.lk j }
/-- nothing of c is lost in c' -/
def CtxLe (c c' : Ctx) : Prop := (∀ i a o, c.lk i = some a → c.tmp a = some o → c'.tmp a = some o) ∧ ∀ a o, c.pin a = some o → c'.pin a = some o
theorem CtxLe.refl (c : Ctx) : CtxLe c c := ⟨fun _ _ _ _ h => h, fun _ _ h => h⟩
theorem CtxLe.hold {c : Ctx} {p : Addr} {o : HO} (h : c.tmp p = none) : CtxLe c (c.hold p o) := ⟨fun _ a u _ e => by
  show upd c.tmp p o a = some u
  rw [upd_ne fun z => by rw [z, h] at e; cases e]; exact e, fun _ _ h => h⟩
theorem CtxLe.rehold {c : Ctx} {p : Addr} {o u : HO} (h : ∀ i, c.lk i ≠ some p) : CtxLe (c.hold p o) (c.hold p u) := ⟨fun i a w hk e => by
  have ha : a ≠ p := fun z => h i (by rw [← z]; exact hk)
  have e' : upd c.tmp p o a = some w := e
  show upd c.tmp p u a = some w
  rw [upd_ne ha] at e' ⊢; exact e', fun _ _ h => h⟩

theorem G.lock (g : G K c F H σ env) {i : Nat} {d : D} {a : Addr} {o : HO} (es : env[i]? = some (.own d)) (ev : σ[i]? = some (some (.ref a))) (ho : H a = some o) (lo : LkO K F o d) : G K (c.lock i a o) F H σ (env.set i (.lk d)) := by
  obtain ⟨a', e1, hF, h0, ob⟩ := g.slot i _ _ es ev
  cases e1
  have hi : i < env.length := (List.getElem?_eq_some_iff.mp es).1
  have ht := g.tmpNo es rfl ev
  have get : ∀ (m : Nat) (s : Slot), (env.set i (.lk d))[m]? = some s → (m = i ∧ s = .lk d) ∨ (m ≠ i ∧ env[m]? = some s) := fun m s e => by
    by_cases hmi : m = i
    · subst hmi; rw [List.getElem?_set_self hi] at e; cases e; exact .inl ⟨rfl, rfl⟩
    · rw [List.getElem?_set_ne (Ne.symm hmi)] at e; exact .inr ⟨hmi, e⟩
  refine ⟨g.sub, by rw [List.length_set]; exact g.len, fun j s o' es' ev' => ?_, fun j k s t u hjk e1 e2 m1 m2 => ?_, g.old, g.fr0, g.frn, g.dom, g.ioh, fun b u e => ?_, g.pin, fun j d' es' => ?_, fun j b e => ?_, g.fz, g.tf⟩
  · rcases get j s es' with ⟨rfl, rfl⟩ | ⟨hj, e⟩
    · trivial
    · exact (g.slot j s o' e ev').ctx rfl rfl
  · rcases get j s e1 with ⟨_, rfl⟩ | ⟨_, e1'⟩
    · cases m1
    · rcases get k t e2 with ⟨_, rfl⟩ | ⟨_, e2'⟩
      · cases m2
      · exact g.dist j k s t u hjk e1' e2' m1 m2
  · by_cases hb : b = a
    · subst hb
      have e' : upd c.tmp b o b = some u := e
      rw [upd_same] at e'; cases e'
      refine ⟨ho, hF, fun j s es' m ev' => ?_⟩
      rcases get j s es' with ⟨_, rfl⟩ | ⟨hj, e⟩
      · cases m
      · exact g.dist i j _ s _ (Ne.symm hj) es e rfl m ev ev'
    · have e' : upd c.tmp a o b = some u := e
      rw [upd_ne hb] at e'
      obtain ⟨q1, q2, q3⟩ := g.tmp b u e'
      refine ⟨q1, q2, fun j s es' m ev' => ?_⟩
      rcases get j s es' with ⟨_, rfl⟩ | ⟨hj, e⟩
      · cases m
      · exact q3 j s e m ev'
  · rcases get j _ es' with ⟨rfl, z⟩ | ⟨hj, e⟩
    · cases z
      exact ⟨a, o, if_pos rfl, ev, upd_same, lo, h0⟩
    · obtain ⟨b, u, q1, q2, q3, q4, q5⟩ := g.lk j d' e
      refine ⟨b, u, by show (if j = i then some a else c.lk j) = some b; rw [if_neg hj]; exact q1, q2, ?_, q4, q5⟩
      show upd c.tmp a o b = some u
      rw [upd_ne fun z => by rw [z, ht] at q3; cases q3]
      exact q3
  · have e' : (if j = i then some a else c.lk j) = some b := e
    by_cases hj : j = i
    · rw [if_pos hj] at e'; cases e'
      exact ⟨by show upd c.tmp a o a ≠ none; rw [upd_same]; simp, d, by rw [hj]; exact List.getElem?_set_self hi⟩
    · rw [if_neg hj] at e'
      obtain ⟨q1, d', q2⟩ := g.lkc j b e'
      refine ⟨?_, d', by rw [List.getElem?_set_ne (Ne.symm hj)]; exact q2⟩
      show upd c.tmp a o b ≠ none
      by_cases hb : b = a
      · rw [hb, upd_same]; simp
      · rw [upd_ne hb]; exact q1
/-- the lock is taken off -/
theorem G.unlock {i : Nat} {a : Addr} {o : HO} {d : D} (g : G K (c.lock i a o) F H σ env) (es : env[i]? = some (.lk d)) (ht : c.tmp a = none) (hl : c.lk i = none) (hL : ∀ j, c.lk j ≠ some a) (hmu : ∀ ob u, o ≠ .frz ob u) :
    G K c F H σ (env.set i (.own d)) := by
  obtain ⟨a', o', q1, ev, q3, lo, h0⟩ := g.lk i d es
  have e1 : a' = a := by
    have q1' : (if i = i then some a else c.lk i) = some a' := q1
    rw [if_pos rfl] at q1'; cases q1'; rfl
  subst e1
  have e2 : o' = o := by
    have q3' : upd c.tmp a' o a' = some o' := q3
    rw [upd_same] at q3'; cases q3'; rfl
  subst e2
  obtain ⟨hH, hF, hn⟩ := g.tmp a' o' upd_same
  have hi : i < env.length := (List.getElem?_eq_some_iff.mp es).1
  have ob : Ob K F H a' d := by
    cases lo with
    | lst r => exact .lst hH r
    | dK r => exact absurd rfl (hmu _ _)
  have get : ∀ (m : Nat) (s : Slot), (env.set i (.own d))[m]? = some s → (m = i ∧ s = .own d) ∨ (m ≠ i ∧ env[m]? = some s) := fun m s e => by
    by_cases hmi : m = i
    · subst hmi; rw [List.getElem?_set_self hi] at e; cases e; exact .inl ⟨rfl, rfl⟩
    · rw [List.getElem?_set_ne (Ne.symm hmi)] at e; exact .inr ⟨hmi, e⟩
  refine ⟨g.sub, by rw [List.length_set]; exact g.len, fun j s o2 es' ev' => ?_, fun j k s t u hjk e1 e2 m1 m2 ev1 => ?_, g.old, g.fr0, g.frn, g.dom, g.ioh, fun b u e => ?_, g.pin, fun j d' es' => ?_, fun j b e => ?_, g.fz, g.tf⟩
  · rcases get j s es' with ⟨rfl, rfl⟩ | ⟨hj, e⟩
    · rw [ev] at ev'; cases ev'
      exact ⟨a', rfl, hF, h0, ob⟩
    · exact (g.slot j s o2 e ev').ctx rfl rfl
  · rcases get j s e1 with ⟨rfl, rfl⟩ | ⟨hj, e1'⟩
    · rw [ev] at ev1; cases ev1
      rcases get k t e2 with ⟨rfl, _⟩ | ⟨hk, e2'⟩
      · exact absurd rfl hjk
      · exact hn k t e2' m2
    · rcases get k t e2 with ⟨rfl, rfl⟩ | ⟨hk, e2'⟩
      · rw [ev]
        intro z
        cases z
        exact hn j s e1' m1 ev1
      · exact g.dist j k s t u hjk e1' e2' m1 m2 ev1
  · have hb : b ≠ a' := fun z => by rw [z, ht] at e; cases e
    obtain ⟨r1, r2, r3⟩ := g.tmp b u (by show upd c.tmp a' o' b = some u; rw [upd_ne hb]; exact e)
    refine ⟨r1, r2, fun j s es' m ev' => ?_⟩
    rcases get j s es' with ⟨rfl, rfl⟩ | ⟨hj, e'⟩
    · rw [ev] at ev'; cases ev'; exact hb rfl
    · exact r3 j s e' m ev'
  · rcases get j _ es' with ⟨_, z⟩ | ⟨hj, e⟩
    · cases z
    · obtain ⟨b, u, r1, r2, r3, r4, r5⟩ := g.lk j d' e
      have r1' : (if j = i then some a' else c.lk j) = some b := r1
      rw [if_neg hj] at r1'
      have hb : b ≠ a' := fun z => hL j (by rw [← z]; exact r1')
      have r3' : upd c.tmp a' o' b = some u := r3
      rw [upd_ne hb] at r3'
      exact ⟨b, u, r1', r2, r3', r4, r5⟩
  · have hj : j ≠ i := fun z => by rw [z, hl] at e; cases e
    obtain ⟨q1, d', q2⟩ := g.lkc j b (by show (if j = i then some a' else c.lk j) = some b; rw [if_neg hj]; exact e)
    have hb : b ≠ a' := fun z => hL j (by rw [← z]; exact e)
    have q1' : upd c.tmp a' o' b ≠ none := q1
    rw [upd_ne hb] at q1'
    exact ⟨q1', d', by rw [List.getElem?_set_ne (Ne.symm hj)]; exact q2⟩
end

/-! ### what is walked -/
/-- the items, the slot that is locked, the names -/
abbrev I := Env → Option (List D × Option Nat × Env)
/-- J walks the items, whatever the body does -/
def WalkD (K : PySem.W.Frag) (c : Ctx) (F : Hp) (items : List D) (J : It) : Prop :=
  ∃ Gp Y, Walk J items.length Gp Y ∧ (∀ c2 F2 H σ env, CtxLe c c2 → G K c2 F2 H σ env → Same F F2 → Gp H) ∧
    ∀ (i : Nat) H x H' c2 F2 σ env, i < items.length → CtxLe c c2 → G K c2 F2 H σ env → Same F F2 → Y i H x H' → ∃ d F3, items[i]? = some d ∧ G K c2 F3 H' σ env ∧ Same F2 F3 ∧ Rp K F3 x d ∧ ∀ b o, c2.tmp b = some o → H' b = H b
/-- the context behind the lock -/
def Lk (c c' : Ctx) : Option Nat → Prop
  | none => c' = c
  | some i => ∃ a o, c' = c.lock i a o ∧ c.tmp a = none ∧ c.lk i = none ∧ (∀ j, c.lk j ≠ some a) ∧ ∀ ob u, o ≠ .frz ob u
/-- no list is too long -/
def Siz (K : PySem.W.Frag) (H : Hp) : Prop := (∀ a xs, SqL K H a xs → xs.length ≤ sizeLine) ∧ (∀ a xs, SqT K H a xs → xs.length ≤ sizeLine) ∧ ∀ a kvs, Rd H a (.dK kvs) → kvs.length ≤ sizeLine
theorem _root_.L2.Inv.siz {X : Cx} {pins : List (Addr × Obj)} {σ : L2.St} {H : Hp} {s : Shared} (I : Inv X pins σ H s) : Siz X.K H :=
  ⟨fun _ _ h => let ⟨_, _, _, z⟩ := I.list h; z, fun _ _ h => let ⟨_, _, _, z⟩ := I.tuple h; z, fun _ _ h => (dk_rd I.hok h).1⟩
theorem _root_.L2.PI.siz {X : Cx} {tg e : Expr} {t : TI} (h : PI X tg e t) : PI X tg e (fun σ H R => t σ H fun J H' => Siz X.K H' → R J H') := ⟨fun pins s σ H R I hw =>
  thn (h.run pins s σ H _ I hw) fun v s1 h1 => thn h1 fun itv s2 ⟨it, fp, tn, J, H', e, I', T, st, f, r⟩ => ⟨it, fp, tn, J, H', e, I', T, st, f, r I'.siz⟩⟩
def tI (K : PySem.W.Frag) (f : I) : TI := fun σ H R => ∃ c F env items l env', G K c F H σ env ∧ f env = some (items, l, env') ∧
  ∀ J c' F' H', Lk c c' l → G K c' F' H' σ env' → Same F F' → WalkD K c' F' items J → (Siz K H' → items.length ≤ sizeLine) → R J H'
abbrev JI (X : Cx) (tg e : Expr) (f : I) : Prop := PI X tg e (tI X.K f)
theorem _root_.L2.PI.imp {X : Cx} {tg e : Expr} {t t' : TI} (h : PI X tg e t) (i : ∀ σ H R, t' σ H R → t σ H R) : PI X tg e t' := ⟨fun pins s σ H R I hw => h.run pins s σ H R I (i σ H R hw)⟩
theorem _root_.L2.PI.or {X : Cx} {tg e : Expr} {t t' : TI} (h : PI X tg e t) (h' : PI X tg e t') : PI X tg e (fun σ H R => t σ H R ∨ t' σ H R) := ⟨fun pins s σ H R I hw => hw.elim (h.run pins s σ H R I) (h'.run pins s σ H R I)⟩
/-- what must be known ahead, beside G -/
abbrev Pre := Ctx → Hp → Hp → L2.St → Ev.Env → Prop
structure ItOk (K : PySem.W.Frag) (it : I) (ti : TI) (pre : Pre) : Prop where
  run : ∀ {σ : L2.St} {H : Hp} {R : It → Hp → Prop} {c : Ctx} {F : Hp} {env env' : Ev.Env} {items : List D} {l : Option Nat}, G K c F H σ env → pre c F H σ env → it env = some (items, l, env') →
  (∀ J c' F' H', Lk c c' l → G K c' F' H' σ env' → Same F F' → WalkD K c' F' items J → (Siz K H' → items.length ≤ sizeLine) → R J H') → ti σ H R
theorem ItOk.std {K : PySem.W.Frag} {it : I} {pre : Pre} : ItOk K it (tI K it) pre := ⟨fun g _ h q => ⟨_, _, _, _, _, _, g, h, q⟩⟩
def tSp (K : PySem.W.Frag) (pre : Pre) (f : S) : TS := fun Dn σ H => ∃ c F env o, G K c F H σ env ∧ pre c F H σ env ∧ f env = some o ∧ Post K c F Dn o
def tEp (K : PySem.W.Frag) (pre : Pre) (f : E) : TE := fun σ H Q => ∃ c F env r env', G K c F H σ env ∧ pre c F H σ env ∧ f env = some (r, env') ∧ ∀ v F' H', G K c F' H' σ env' → Same F F' → RsOk K c F' H' σ env' v r → Q v H'
theorem tEp.of {K : PySem.W.Frag} {pre : Pre} {f : E} {σ : L2.St} {H : Hp} {Q : VK} (hp : ∀ c F H σ env, pre c F H σ env) (w : tE K f σ H Q) : tEp K pre f σ H Q := by
  obtain ⟨c, F, env, r, env', g, hf, q⟩ := w
  exact ⟨c, F, env, r, env', g, hp _ _ _ _ _, hf, q⟩
def chars (x : Str) : List D := x.cps.toList.map fun c => .str ⟨#[c]⟩
def isCst : Rs → Bool
  | .cst _ => true
  | _ => false
def itemsOf (r : Rs) (e : Env) : Option (List D × Option Nat × Env) := match r with
  | .var i => match e[i]? with
    | some (.own (.list ds)) => some (ds, some i, e.set i (.lk (.list ds)))
    | some (.lk (.list ds)) => some (ds, none, e)
    | _ => none
  | r => match look r e with
    | some (.list ds) => some (ds, none, e)
    | some (.tuple ds) => if isCst r && !ds.all scalD then none else some (ds, none, e)
    | some (.str x) => if x.length ≤ sizeLine then some (chars x, none, e) else none
    | _ => none
def iE (f : E) : I := fun e => do
  let (r, e1) ← f e
  itemsOf r e1
section
variable {K : PySem.W.Frag} {c : Ctx} {F H : Hp} {σ : L2.St} {env : Env}
theorem walkD_list {a : Addr} {xs : List V} {ds : List D} (r : RpA K F xs ds) (hs : ∀ c2 F2 H σ env, CtxLe c c2 → G K c2 F2 H σ env → Same F F2 → SqL K H a xs) : WalkD K c F ds (Itl K a) := by
  refine ⟨_, _, by rw [← r.length]; exact walk_list (xs := xs), hs, fun i H x H' c2 F2 σ env hi hc g s y => ?_⟩
  obtain ⟨rfl, y⟩ := y
  obtain ⟨d, hd, rd⟩ := r.at y
  exact ⟨d, F2, hd, g, Same.refl F2, rd.mono s, fun _ _ _ => rfl⟩
theorem walkD_tup {a : Addr} {xs : List V} {ds : List D} (r : RpA K F xs ds) (hs : ∀ c2 F2 H σ env, CtxLe c c2 → G K c2 F2 H σ env → Same F F2 → SqT K H a xs) : WalkD K c F ds (Itt K a) := by
  refine ⟨_, _, by rw [← r.length]; exact walk_tup (xs := xs), hs, fun i H x H' c2 F2 σ env hi hc g s y => ?_⟩
  obtain ⟨rfl, y⟩ := y
  obtain ⟨d, hd, rd⟩ := r.at y
  exact ⟨d, F2, hd, g, Same.refl F2, rd.mono s, fun _ _ _ => rfl⟩
theorem walkD_str {x : Str} : WalkD K c F (chars x) (Its x) := by
  have hl : (chars x).length = x.cps.size := by simp [chars]
  refine ⟨_, _, by rw [hl]; exact walk_str, fun _ _ _ _ _ _ _ _ => trivial, fun i H v H' c2 F2 σ env hi hc g s y => ?_⟩
  obtain ⟨rfl, ch, hch, rfl⟩ := y
  refine ⟨.str ⟨#[ch]⟩, F2, ?_, g, Same.refl F2, .str _, fun _ _ _ => rfl⟩
  unfold chars
  rw [List.getElem?_map, Array.getElem?_toList, hch]
  rfl
theorem walkD_fn {n : Nat} {f : Nat → Int} {J : It} (w : Walk J n (fun _ => True) (YFn fun i => .int (f i))) : WalkD K c F ((List.range n).map fun i => .int (f i)) J := by
  refine ⟨_, _, by rw [List.length_map, List.length_range]; exact w, fun _ _ _ _ _ _ _ _ => trivial, fun i H v H' c2 F2 σ env hi hc g s y => ?_⟩
  obtain ⟨rfl, rfl⟩ := y
  rw [List.length_map, List.length_range] at hi
  exact ⟨.int (f i), F2, by rw [List.getElem?_map, List.getElem?_range hi]; rfl, g, Same.refl F2, .int _, fun _ _ _ => rfl⟩
theorem lock_list {i : Nat} {ds : List D} {v : V} (g : G K c F H σ env) (es : env[i]? = some (.own (.list ds))) (ev : σ[i]? = some (some v)) :
    ∃ a xs c', v = .ref a ∧ SqL K H a xs ∧ RpA K F xs ds ∧ Lk c c' (some i) ∧ G K c' F H σ (env.set i (.lk (.list ds))) ∧ ∀ c2 F2 H σ env, CtxLe c' c2 → G K c2 F2 H σ env → Same F F2 → SqL K H a xs := by
  obtain ⟨a, e1, hF, h0, ob⟩ := g.slot i _ _ es ev
  cases e1
  cases ob with
  | lst hH r =>
    rename_i xs
    have ht := g.tmpNo es rfl ev
    have hk : c.lk i = none := by
      cases q : c.lk i with
      | none => rfl
      | some b =>
        obtain ⟨_, d', z⟩ := g.lkc i b q
        rw [es] at z; cases z
    have hL : ∀ j, c.lk j ≠ some a := fun j z => (g.lkc j a z).1 ht
    exact ⟨a, xs, _, rfl, .of hH, r, ⟨a, _, rfl, ht, hk, hL, fun _ _ z => by cases z⟩, g.lock es ev hH (.lst r), fun c2 F2 H2 σ2 env2 hc g2 s2 => .of (g2.tmp a _ (hc.1 i a _ (if_pos rfl) upd_same)).1⟩
end
section
variable {X : Cx} {tg a : Expr} {fa : E}
theorem ie_ok {σ : L2.St} {H : Hp} {R : It → Hp → Prop} (w : tI X.K (iE fa) σ H R) : iList X.K (tE X.K fa) σ H R ∨ iTup X.K (tE X.K fa) σ H R ∨ iStr (tE X.K fa) σ H R := by
  obtain ⟨c, F, env, items, l, env', g, hf, q⟩ := w
  simp only [iE, bind, Option.bind_eq_some_iff] at hf
  obtain ⟨⟨r, e1⟩, h1, h2⟩ := hf
  dsimp only at h2
  unfold itemsOf at h2
  split at h2
  · rename_i i
    refine .inl ⟨c, F, env, .var i, e1, g, h1, fun v F1 H1 g1 s1 r1 => ?_⟩
    have ev : σ[i]? = some (some v) := r1
    split at h2
    · rename_i ds es
      cases h2
      obtain ⟨b, xs, c', rfl, hS, rr, hk, g', hs⟩ := lock_list g1 es ev
      exact ⟨b, rfl, ⟨xs, hS⟩, q _ c' F1 H1 hk g' s1 (walkD_list rr hs) fun z => by rw [← rr.length]; exact z.1 _ _ hS⟩
    · rename_i ds es
      cases h2
      obtain ⟨b, o, k1, k2, k3, k4, k5⟩ := g1.lk i _ es
      rw [ev] at k2; cases k2
      cases k4 with
      | lst rr => exact ⟨b, rfl, ⟨_, .of (g1.tmp b _ k3).1⟩, q _ c F1 H1 rfl g1 s1 (walkD_list rr fun c2 F2 H2 σ2 env2 hc g2 s2 => .of (g2.tmp b _ (hc.1 _ b _ k1 k3)).1) fun z => by rw [← rr.length]; exact z.1 _ _ (.of (g1.tmp b _ k3).1)⟩
    · cases h2
  · rename_i hnv
    split at h2
    · rename_i ds hl
      cases h2
      refine .inl ⟨c, F, env, r, _, g, h1, fun v F1 H1 g1 s1 r1 => ?_⟩
      cases r with
      | shr d =>
        cases hl
        cases r1 with
        | lst e rr =>
          exact ⟨_, rfl, ⟨_, (g1.sub.lr e).sq⟩, q _ c F1 H1 rfl g1 s1 (walkD_list rr fun c2 F2 H2 σ2 env2 hc g2 s2 => (g2.sub.lr ((Sub.of s2).lr e)).sq) fun z => by rw [← rr.length]; exact z.1 _ _ (g1.sub.lr e).sq⟩
      | new d =>
        cases hl
        obtain ⟨F2, g2, s2, r2⟩ := take_ok (r := .new (.list items)) g1 r1 rfl
        cases r2 with
        | lst e rr =>
          exact ⟨_, rfl, ⟨_, (g2.sub.lr e).sq⟩, q _ c F2 H1 rfl g2 (s1.trans s2) (walkD_list rr fun c2 F2 H2 σ2 env2 hc g2 s2 => (g2.sub.lr ((Sub.of s2).lr e)).sq) fun z => by rw [← rr.length]; exact z.1 _ _ ((g2.sub.lr e).sq)⟩
      | var i => exact absurd rfl (hnv i)
      | cst d =>
        simp only [look] at hl
        split at hl
        · cases hl; cases r1
        · cases hl
    · rename_i ds hl
      split at h2
      · cases h2
      · rename_i hcst
        cases h2
        refine .inr (.inl ⟨c, F, env, r, _, g, h1, fun v F1 H1 g1 s1 r1 => ?_⟩)
        cases r with
        | shr d =>
          cases hl
          cases r1 with
          | tup e rr => exact ⟨_, rfl, ⟨_, g1.sub.sq e⟩, q _ c F1 H1 rfl g1 s1 (walkD_tup rr fun c2 F2 H2 σ2 env2 hc g2 s2 => g2.sub.sq (e.elim (fun q => .inl (s2 _ _ q)) .inr)) fun z => by rw [← rr.length]; exact z.2.1 _ _ (g1.sub.sq e)⟩
        | new d => cases hl; obtain ⟨_, _, _, _, ob, _⟩ := r1; cases ob
        | var i => exact absurd rfl (hnv i)
        | cst d =>
          have hl' : d = .tuple items := by
            simp only [look] at hl
            split at hl
            · exact Option.some.inj hl
            · cases hl
          subst hl'
          cases r1 with
          | tup k1 k2 k3 k4 k5 k6 =>
            have rr : RpA X.K F1 _ items := k6.scals (by simpa [isCst] using hcst)
            exact ⟨_, rfl, ⟨_, .inr ⟨_, _, _, k1, k2, k3, k4, k5⟩⟩, q _ c F1 H1 rfl g1 s1 (walkD_tup rr fun _ _ _ _ _ _ _ _ => .inr ⟨_, _, _, k1, k2, k3, k4, k5⟩) fun z => by rw [← rr.length]; exact z.2.1 _ _ (.inr ⟨_, _, _, k1, k2, k3, k4, k5⟩)⟩
    · rename_i x hl
      split at h2
      · rename_i hlen
        cases h2
        refine .inr (.inr ⟨c, F, env, r, _, g, h1, fun v F1 H1 g1 s1 r1 => ?_⟩)
        cases (look_ok g1 r1 hl).str
        exact ⟨x, rfl, q _ c F1 H1 rfl g1 s1 walkD_str fun _ => by simpa [chars, Str.length] using hlen⟩
      · cases h2
    · cases h2
theorem ji_e (ha : JE X a fa) : JI X tg a (iE fa) := ((pi_list ha).or ((pi_tup ha).or (pi_str ha))).imp fun σ H R w => ie_ok w
end

/-! ### range, enumerate -/
def iR1 (f : E) : I := fun e => do
  let (r, e1) ← f e
  match look r e1 with
  | some (.int n) => if -(2 ^ 62) ≤ n ∧ n ≤ 16777216 then some ((List.range n.toNat).map fun i => .int (0 + (i : Nat)), none, e1) else none
  | _ => none
def iR2 (f g : E) : I := fun e => do
  let (r, e1) ← f e
  let (r', e2) ← g e1
  match look (settle r) e2, look r' e2 with
  | some (.int i), some (.int j) => if -(2 ^ 62) ≤ i ∧ i < 2 ^ 62 ∧ -(2 ^ 62) ≤ j ∧ j < 2 ^ 62 ∧ j - i ≤ 16777216 then some ((List.range (j - i).toNat).map fun k => .int (i + (k : Nat)), none, e2) else none
  | _, _ => none
/-- enumerate of a list -/
def enumD (ds : List D) : List D := (List.range ds.length).zipWith (fun i d => .tuple [.int (i : Nat), d]) ds
theorem enumD_length (ds : List D) : (enumD ds).length = ds.length := by simp [enumD]
def iEnum (f : E) : I := fun e => do
  let (r, e1) ← f e
  match look r e1 with
  | some (.list _) => do
    let (ds, l, e2) ← itemsOf r e1
    pure (enumD ds, l, e2)
  | _ => none
section
variable {X : Cx} {tg a b : Expr} {fa fb : E} {p pos : Pos}
theorem ji_r1 (B : Bl X.mg) (ha : JE X a fa) (hg : Gl X "range" := by rfl) (h0 : starEach [a] X.env = (false, eval a X.env) :: starEach [] X.env := by rfl) (hs : starEach [a] X.env = [(false, eval a X.env)] := by rfl) : JI X tg (.Call (.Name "range" p) [a] [] pos) (iR1 fa) :=
  (pi_range1 hg B.range (pa_cons ha pa_nil h0) hs).imp fun σ H R w => by
    obtain ⟨c, F, env, items, l, env', g, hf, q⟩ := w
    simp only [iR1, bind, Option.bind_eq_some_iff] at hf
    obtain ⟨⟨r, e1⟩, h1, h2⟩ := hf
    dsimp only at h2
    split at h2
    · rename_i n hl
      split at h2
      · rename_i hb
        cases h2
        refine ⟨c, F, env, r, _, g, h1, fun v F1 H1 g1 s1 r1 => ?_⟩
        cases (look_ok g1 r1 hl).int
        exact ⟨n, rfl, hb.1, by omega, q _ c F1 H1 rfl g1 s1 (walkD_fn walk_range) fun _ => by rw [List.length_map, List.length_range, sizeLine_eq]; omega⟩
      · cases h2
    · cases h2
theorem ji_r2 (B : Bl X.mg) (ha : JE X a fa) (hb : JE X b fb) (hg : Gl X "range" := by rfl) (h0 : starEach [a, b] X.env = (false, eval a X.env) :: starEach [b] X.env := by rfl) (h1 : starEach [b] X.env = (false, eval b X.env) :: starEach [] X.env := by rfl)
    (hs : starEach [a, b] X.env = [(false, eval a X.env), (false, eval b X.env)] := by rfl) (hs2 : starEach [b] X.env = [(false, eval b X.env)] := by rfl) : JI X tg (.Call (.Name "range" p) [a, b] [] pos) (iR2 fa fb) :=
  (pi_range2 hg B.range (pa_cons ha (pa_cons hb pa_nil h1) h0) hs hs2).imp fun σ H R w => by
    obtain ⟨c, F, env, items, l, env', g, hf, q⟩ := w
    simp only [iR2, bind, Option.bind_eq_some_iff] at hf
    obtain ⟨⟨r, e1⟩, h1, ⟨r', e2⟩, h2, h3⟩ := hf
    dsimp only at h3
    split at h3
    · rename_i i j hi hj
      split at h3
      · rename_i hb
        cases h3
        refine ⟨c, F, env, r, e1, g, h1, fun v F1 H1 g1 s1 r1 => ?_⟩
        obtain ⟨F2, g2, s2, r2⟩ := settle_ok g1 r1
        refine ⟨c, F2, e1, r', _, g2, h2, fun u F3 H3 g3 s3 r3 => ?_⟩
        cases (look_ok g3 (r2.keep (settle_settled r) s3) hi).int
        cases (look_ok g3 r3 hj).int
        exact ⟨i, j, rfl, ⟨hb.1, hb.2.1, hb.2.2.1, hb.2.2.2.1⟩, q _ c F3 H3 rfl g3 ((s1.trans s2).trans s3) (walkD_fn walk_range) fun _ => by rw [List.length_map, List.length_range, sizeLine_eq]; omega⟩
      · cases h3
    · cases h3
theorem walkD_enum {K : PySem.W.Frag} {c : Ctx} {F : Hp} {a : Addr} {xs : List V} {ds : List D} (r : RpA K F xs ds) (hs : ∀ c2 F2 H σ env, CtxLe c c2 → G K c2 F2 H σ env → Same F F2 → SqL K H a xs) : WalkD K c F (enumD ds) (Ite K a) := by
  have hl : (enumD ds).length = xs.length := by simp [enumD, r.length]
  refine ⟨_, _, by rw [hl]; exact walk_enum (xs := xs), hs, fun i H x H' c2 F2 σ env hi hc g s y => ?_⟩
  obtain ⟨T, x1, x2, rfl, nT, rfl, e1, e2⟩ := y
  cases e1
  obtain ⟨d, hd, rd⟩ := r.at e2
  obtain ⟨F3, g3, s3, r3⟩ := g.laidTup nT (.cons (.int (i : Nat)) (.cons (rd.mono s) .nil))
  refine ⟨_, F3, ?_, g3, s3, r3, fun b o e => by rw [upd_ne fun z => by rw [z] at e; rw [(g.tmp T o e).1] at nT; cases nT]⟩
  unfold enumD
  have hi' : i < ds.length := (List.getElem?_eq_some_iff.mp hd).1
  rw [List.getElem?_zipWith, List.getElem?_range hi', hd]
theorem ji_enum {elts : List Expr} {kk : Nat} {tpos : Pos} (B : Bl X.mg) (ha : JE X a fa) (hg : Gl X "enumerate" := by rfl) (h0 : starEach [a] X.env = (false, eval a X.env) :: starEach [] X.env := by rfl) (hs : starEach [a] X.env = [(false, eval a X.env)] := by rfl) :
    JI X (.Tuple elts kk tpos) (.Call (.Name "enumerate" p) [a] [] pos) (iEnum fa) := (pi_enum hg B.enumerate (pa_cons ha pa_nil h0) hs).imp fun σ H R w => by
  obtain ⟨c, F, env, items, l, env', g, hf, q⟩ := w
  simp only [iEnum, bind, Option.bind_eq_some_iff] at hf
  obtain ⟨⟨r, e1⟩, h1, h2⟩ := hf
  dsimp only at h2
  split at h2
  · rename_i ds0 hl0
    simp only [Option.bind_eq_some_iff, pure, Option.some.injEq] at h2
    obtain ⟨⟨ds, l', e2⟩, h2, e⟩ := h2
    cases e
    refine ⟨c, F, env, r, e1, g, h1, fun v F1 H1 g1 s1 r1 => ?_⟩
    unfold itemsOf at h2
    split at h2
    · rename_i i
      have ev : σ[i]? = some (some v) := r1
      split at h2
      · rename_i ds es
        cases h2
        obtain ⟨b, xs, c', rfl, hS, rr, hk, g', hs⟩ := lock_list g1 es ev
        exact ⟨b, xs, rfl, hS, q _ c' F1 H1 hk g' s1 (walkD_enum rr hs) fun z => by rw [enumD_length, ← rr.length]; exact z.1 _ _ hS⟩
      · rename_i ds es
        cases h2
        obtain ⟨b, o, k1, k2, k3, k4, k5⟩ := g1.lk i _ es
        rw [ev] at k2; cases k2
        cases k4 with
        | lst rr => exact ⟨b, _, rfl, .of (g1.tmp b _ k3).1, q _ c F1 H1 rfl g1 s1 (walkD_enum rr fun c2 F2 H2 σ2 env2 hc g2 s2 => .of (g2.tmp b _ (hc.1 _ b _ k1 k3)).1) fun z => by rw [enumD_length, ← rr.length]; exact z.1 _ _ (.of (g1.tmp b _ k3).1)⟩
      · cases h2
    · rename_i hnv
      rw [hl0] at h2
      cases h2
      cases r with
      | shr d =>
        cases hl0
        cases r1 with
        | lst e rr => exact ⟨_, _, rfl, (g1.sub.lr e).sq, q _ c F1 H1 rfl g1 s1 (walkD_enum rr fun c2 F2 H2 σ2 env2 hc g2 s2 => (g2.sub.lr ((Sub.of s2).lr e)).sq) fun z => by rw [enumD_length, ← rr.length]; exact z.1 _ _ (g1.sub.lr e).sq⟩
      | new d =>
        cases hl0
        obtain ⟨F2, g2, s2, r2⟩ := take_ok (r := .new (.list _)) g1 r1 rfl
        cases r2 with
        | lst e rr => exact ⟨_, _, rfl, (g2.sub.lr e).sq, q _ c F2 H1 rfl g2 (s1.trans s2) (walkD_enum rr fun c2 F2 H2 σ2 env2 hc g2 s2 => (g2.sub.lr ((Sub.of s2).lr e)).sq) fun z => by rw [enumD_length, ← rr.length]; exact z.1 _ _ ((g2.sub.lr e).sq)⟩
      | var i => exact absurd rfl (hnv i)
      | cst d =>
        simp only [look] at hl0
        split at hl0
        · cases hl0; cases r1
        · cases hl0
  · cases h2
end

/-! ### for -/
def loopF (tg : TgE) (body : S) : List D → Env → Option Out
  | [], e => some (.nx e)
  | d :: ds, e => do
    let e1 ← tg d e
    let o ← body e1
    match o with
    | .nx e2 => loopF tg body ds e2
    | .ct e2 => loopF tg body ds e2
    | .bk e2 => some (.nx e2)
    | .rt r e2 => some (.rt r e2)
def unlockE : Option Nat → Env → Option Env
  | none, e => some e
  | some i, e => match e[i]? with
    | some (.lk d) => some (e.set i (.own d))
    | _ => none
def unlockO (l : Option Nat) : Out → Option Out
  | .nx e => (unlockE l e).map .nx
  | .rt r e => (unlockE l e).map (.rt r)
  | .bk e => (unlockE l e).map .bk
  | .ct e => (unlockE l e).map .ct
def sFor (it : I) (tg : TgE) (body : S) : S := fun e => do
  let (ds, l, e1) ← it e
  let o ← loopF tg body ds e1
  unlockO l o
theorem unlock_ok {K : PySem.W.Frag} {c c' : Ctx} {F H : Hp} {σ : L2.St} {env env' : Env} {l : Option Nat} (hk : Lk c c' l) (g : G K c' F H σ env) (e : unlockE l env = some env') : G K c F H σ env' := by
  cases l with
  | none => cases e; cases hk; exact g
  | some i =>
    obtain ⟨a, o, rfl, h1, h2, h3, h4⟩ := hk
    simp only [unlockE] at e
    split at e
    · rename_i d es
      cases e
      exact g.unlock es h1 h2 h3 h4
    · cases e
theorem unlock_rs {K : PySem.W.Frag} {c c' : Ctx} {F H : Hp} {σ : L2.St} {env env' : Env} {l : Option Nat} {v : V} {r : Rs} (hk : Lk c c' l) (g : G K c' F H σ env) (e : unlockE l env = some env') (h : RsOk K c' F H σ env v r) : RsOk K c F H σ env' v r := by
  cases l with
  | none => cases e; cases hk; exact h
  | some i =>
    obtain ⟨a, o, rfl, h1, h2, h3, h4⟩ := hk
    simp only [unlockE] at e
    split at e
    · rename_i d es
      cases e
      cases r with
      | shr d => exact h
      | var j => exact h
      | cst d => exact h
      | new d' =>
        obtain ⟨b, rfl, hF, ⟨h0, ht⟩, ob, hn⟩ := h
        have hb : b ≠ a := fun z => by
          have ht' : upd c.tmp a o b = none := ht
          rw [z, upd_same] at ht'; cases ht'
        have ht' : upd c.tmp a o b = none := ht
        rw [upd_ne hb] at ht'
        refine ⟨b, rfl, hF, ⟨h0, ht'⟩, ob, fun j s es' m ev => ?_⟩
        by_cases hj : j = i
        · subst hj
          obtain ⟨a', o', q1, q2, _⟩ := g.lk j d es
          have q1' : (if j = j then some a else c.lk j) = some a' := q1
          rw [if_pos rfl] at q1'; cases q1'
          rw [ev] at q2; cases q2
          exact hb rfl
        · rw [List.getElem?_set_ne (Ne.symm hj)] at es'
          exact hn j s es' m ev
    · cases e
section
variable {X : Cx} {tg iter : Expr} {body : List Stmt} {it : I} {ga : TgE} {ws : List Nat} {fb : S} {pos : Pos}
theorem js_forG {ti : TI} {pre : Pre} (h : ItOk X.K it ti pre) (hc : X.calm = true) (hp : PassesOwn (model X.prog X.w) X.A X.env X.xe) (hi : PI X tg iter ti) (hg : JG X tg ga ws) (hb : JSs X body fb) (hs : ∀ x, foldedSetIterable iter X.env x = pure x := by intro _; rfl) :
    PS X (.For tg iter body [] pos) (tSp X.K pre (sFor it ga fb)) := (ps_for hp hc hi hg hb hs).imp fun Dn σ H w => by
  obtain ⟨c, F, env, o, g, hpre, hf, q⟩ := w
  simp only [sFor, bind, Option.bind_eq_some_iff] at hf
  obtain ⟨⟨ds, l, e1⟩, h1, o1, h2, h3⟩ := hf
  refine h.run g hpre h1 fun J c' F1 H1 hk g1 s1 W _ => ?_
  obtain ⟨Gp, Y, w, hG, hY⟩ := W
  refine for_it w (fun i σ' H' => ∃ F' e, G X.K c' F' H' σ' e ∧ Same F1 F' ∧ loopF ga fb (ds.drop i) e = some o1) ⟨F1, e1, g1, Same.refl F1, h2⟩ (fun i σ' H' _ ⟨F', e, g', s', _⟩ => hG c' F' H' σ' e (CtxLe.refl c') g' s') (fun i x σ' H2 H3 hi P y => ?_) fun σ' H' ⟨F', e, g', s', hl⟩ => ?_
  · obtain ⟨F2, e, g2, s2, hl⟩ := P
    obtain ⟨d, F3, hd, g3, s3, rd, _⟩ := hY i H2 x H3 c' F2 σ' e hi (CtxLe.refl c') g2 s2 y
    have hdrop : ds.drop i = d :: ds.drop (i + 1) := by
      obtain ⟨hlt, e'⟩ := List.getElem?_eq_some_iff.mp hd
      rw [← e']; exact List.drop_eq_getElem_cons hlt
    rw [hdrop] at hl
    simp only [loopF, bind, Option.bind_eq_some_iff] at hl
    obtain ⟨e2, h4, ob, h5, h6⟩ := hl
    refine ⟨c', F3, e, d, e2, g3, rd, h4, fun σ4 F4 H4 _ g4 s4 => ⟨c', F4, e2, ob, g4, h5, ?_⟩⟩
    have s14 : Same F1 F4 := (s2.trans s3).trans s4
    cases ob with
    | nx e3 => exact fun σ5 F5 H5 g5 s5 => ⟨F5, e3, g5, s14.trans s5, h6⟩
    | ct e3 => exact fun σ5 F5 H5 g5 s5 => ⟨F5, e3, g5, s14.trans s5, h6⟩
    | bk e3 =>
      cases h6
      refine fun σ5 F5 H5 g5 s5 => ?_
      simp only [unlockO, Option.map_eq_some_iff] at h3
      obtain ⟨e6, h7, rfl⟩ := h3
      exact q σ5 F5 H5 (unlock_ok hk g5 h7) ((s1.trans s14).trans s5)
    | rt r e3 =>
      cases h6
      refine fun v σ5 F5 H5 g5 s5 r5 => ?_
      simp only [unlockO, Option.map_eq_some_iff] at h3
      obtain ⟨e6, h7, rfl⟩ := h3
      exact q v σ5 F5 H5 (unlock_ok hk g5 h7) ((s1.trans s14).trans s5) (unlock_rs hk g5 h7 r5)
  · rw [List.drop_length] at hl
    cases hl
    simp only [unlockO, Option.map_eq_some_iff] at h3
    obtain ⟨e6, h7, rfl⟩ := h3
    exact q σ' F' H' (unlock_ok hk g' h7) (s1.trans s')
theorem js_for (hc : X.calm = true) (hp : PassesOwn (model X.prog X.w) X.A X.env X.xe) (hi : JI X tg iter it) (hg : JG X tg ga ws) (hb : JSs X body fb) (hs : ∀ x, foldedSetIterable iter X.env x = pure x := by intro _; rfl) :
    JS X (.For tg iter body [] pos) (sFor it ga fb) := (js_forG (pre := fun _ _ _ _ _ => True) ItOk.std hc hp hi hg hb hs).imp fun Dn σ H w => by
  obtain ⟨c, F, env, o, g, hf, q⟩ := w
  exact ⟨c, F, env, o, g, trivial, hf, q⟩

/-! ### while -/
def loopW (t : T) (body : S) : Nat → Env → Option Out
  | 0, _ => none
  | n + 1, e => do
    let (b, e1) ← t e
    if b then do
      let o ← body e1
      match o with
      | .nx e2 => loopW t body n e2
      | .ct e2 => loopW t body n e2
      | .bk e2 => some (.nx e2)
      | .rt r e2 => some (.rt r e2)
    else some (.nx e1)
theorem loopW_mono {t : T} {body : S} : ∀ {n m : Nat} {e : Env} {o : Out}, n ≤ m → loopW t body n e = some o → loopW t body m e = some o
  | 0, _, _, _, _, h => by cases h
  | n + 1, 0, _, _, h, _ => absurd h (by omega)
  | n + 1, m + 1, e, o, h, hl => by
    simp only [loopW, bind, Option.bind_eq_some_iff] at hl ⊢
    obtain ⟨⟨b, e1⟩, h1, h2⟩ := hl
    refine ⟨(b, e1), h1, ?_⟩
    cases b with
    | false => exact h2
    | true =>
      simp only [if_pos rfl, Option.bind_eq_some_iff, if_true] at h2 ⊢
      obtain ⟨o1, h3, h4⟩ := h2
      refine ⟨o1, h3, ?_⟩
      cases o1 with
      | nx e2 => exact loopW_mono (by omega) h4
      | ct e2 => exact loopW_mono (by omega) h4
      | bk e2 => exact h4
      | rt r e2 => exact h4
def sWhile (t : T) (body : S) : S := fun e => loopW t body 1000000000000 e
theorem sWhile_of {t : T} {body : S} {e : Env} {o : Out} {n : Nat} (hn : n ≤ 1000000000000) (h : loopW t body n e = some o) : sWhile t body e = some o := loopW_mono hn h
theorem js_while {c : Expr} {tc : T} (hp : PassesOwn (model X.prog X.w) X.A X.env X.xe) (hc : JT X c tc) (hb : JSs X body fb) : JS X (.While c body [] pos) (sWhile tc fb) := (ps_while hp hc hb).imp fun Dn σ H w => by
  obtain ⟨c, F, env, o, g, hf, q⟩ := w
  refine ⟨fun m σ' H' => ∃ F' e, G X.K c F' H' σ' e ∧ Same F F' ∧ loopW tc fb m e = some o, ⟨_, F, env, g, Same.refl F, hf⟩, fun m σ' H' P => ?_⟩
  obtain ⟨F', e, g', s', hl⟩ := P
  cases m with
  | zero => cases hl
  | succ m =>
    simp only [loopW, bind, Option.bind_eq_some_iff] at hl
    obtain ⟨⟨b, e1⟩, h1, h2⟩ := hl
    refine ⟨c, F', e, b, e1, g', h1, fun F2 H2 g2 s2 => ?_⟩
    cases b with
    | false =>
      cases h2
      exact iteF (q σ' F2 H2 g2 (s'.trans s2))
    | true =>
      simp only [if_pos rfl, Option.bind_eq_some_iff, if_true] at h2
      obtain ⟨o1, h3, h4⟩ := h2
      refine iteT ⟨fun σ5 H5 => ∃ F5 e5, G X.K c F5 H5 σ5 e5 ∧ Same F F5 ∧ loopW tc fb m e5 = some o, fun σ5 H5 P => ⟨m, Nat.lt_succ_self m, P⟩, c, F2, e1, o1, g2, h3, ?_⟩
      have s12 := s'.trans s2
      cases o1 with
      | nx e3 => exact fun σ5 F5 H5 g5 s5 => ⟨F5, e3, g5, s12.trans s5, h4⟩
      | ct e3 => exact fun σ5 F5 H5 g5 s5 => ⟨F5, e3, g5, s12.trans s5, h4⟩
      | bk e3 => cases h4; exact fun σ5 F5 H5 g5 s5 => q σ5 F5 H5 g5 (s12.trans s5)
      | rt r e3 => cases h4; exact fun v σ5 F5 H5 g5 s5 r5 => q v σ5 F5 H5 g5 (s12.trans s5) r5
end
end Ev
set_option Elab.async false
set_option linter.all false
set_option maxRecDepth 100000
set_option maxHeartbeats 1000000
/-! Ev12: comprehensions. -/
namespace Ev
open PySem PySem.Spec PyProof.Rows L2

def wipeE (e : Env) : List Nat → Env
  | [] => e
  | v :: vs => (wipeE e vs).set v .emp
/-- the block's own names are nothing that may change -/
def okWipe (e : Env) (vs : List Nat) : Bool := vs.all fun v => match e[v]? with
  | some .emp => true
  | some (.frz _) => true
  | _ => false
def restoreE (e0 e : Env) : List Nat → Env
  | [] => e
  | v :: vs => match e0[v]? with
    | some s => (restoreE e0 e vs).set v s
    | none => restoreE e0 e vs
section
variable {K : PySem.W.Frag} {c : Ctx} {F F' H H' : Hp} {σ : L2.St} {env env' : Env} {vs : List Nat}
theorem wipeE_len (e : Env) : ∀ vs, (wipeE e vs).length = e.length
  | [] => rfl
  | v :: vs => by unfold wipeE; rw [List.length_set, wipeE_len e vs]
theorem wipeE_out {e : Env} {j : Nat} : ∀ {vs : List Nat}, j ∉ vs → (wipeE e vs)[j]? = e[j]?
  | [], _ => rfl
  | v :: vs, h => by
    unfold wipeE
    rw [List.mem_cons, not_or] at h
    rw [List.getElem?_set_ne (Ne.symm h.1), wipeE_out h.2]
theorem wipeE_in {e : Env} {j : Nat} {s : Slot} : ∀ {vs : List Nat}, j ∈ vs → (wipeE e vs)[j]? = some s → s = .emp
  | v :: vs, h, es => by
    unfold wipeE at es
    by_cases hj : v = j
    · subst hj
      have hl := (List.getElem?_eq_some_iff.mp es).1
      rw [List.length_set] at hl
      rw [List.getElem?_set_self hl] at es
      cases es; rfl
    · rw [List.getElem?_set_ne hj] at es
      rcases List.mem_cons.mp h with z | z
      · exact absurd z.symm hj
      · exact wipeE_in z es
theorem okWipe_at (h : okWipe env vs = true) {j : Nat} (hj : j ∈ vs) : (env[j]? = some .emp ∨ ∃ d, env[j]? = some (.frz d)) := by
  have := List.all_eq_true.mp h j hj
  split at this
  · exact .inl (by assumption)
  · exact .inr ⟨_, by assumption⟩
  · cases this
theorem wipe_len' (σ : L2.St) (vs : List Nat) : (wipe σ vs).length = σ.length := wipe_length σ vs
theorem G.wiped (g : G K c F H σ env) (h : okWipe env vs = true) : G K c F H (wipe σ vs) (wipeE env vs) := by
  have aux : ∀ (j : Nat) (s : Slot), (wipeE env vs)[j]? = some s → s ≠ .emp → j ∉ vs ∧ env[j]? = some s := fun j s es hs => by
    by_cases hj : j ∈ vs
    · exact absurd (wipeE_in hj es) hs
    · exact ⟨hj, by rw [wipeE_out hj] at es; exact es⟩
  have mne : ∀ {s : Slot}, s.mine = true → s ≠ .emp := fun {s} m z => by subst z; cases m
  refine g.slots (by rw [wipe_length, wipeE_len]; exact g.len) (fun j s o es ev => ?_) (fun j k s t v hjk e1 e2 m1 m2 ev => ?_) (fun j s b es m ev => ?_) (fun j d es => ?_) fun j d es => ?_
  · by_cases hj : j ∈ vs
    · have := wipeE_in hj es; subst this; trivial
    · rw [wipeE_out hj] at es
      rw [wipe_out hj] at ev
      exact g.slot j s o es ev
  · obtain ⟨h1, h1'⟩ := aux j s e1 (mne m1)
    obtain ⟨h2, h2'⟩ := aux k t e2 (mne m2)
    rw [wipe_out h1] at ev
    rw [wipe_out h2]
    exact g.dist j k s t v hjk h1' h2' m1 m2 ev
  · obtain ⟨h1, h1'⟩ := aux j s es (mne m)
    rw [wipe_out h1] at ev
    exact g.tmpNo h1' m ev
  · obtain ⟨h1, h1'⟩ := aux j _ es (fun z => by cases z)
    exact ⟨h1', wipe_out h1⟩
  · have hj : j ∉ vs := fun z => by
      rcases okWipe_at h z with q | ⟨d', q⟩ <;> (rw [es] at q; cases q)
    rw [wipeE_out hj]; exact es
theorem restoreE_len (e0 e : Env) : ∀ vs, (restoreE e0 e vs).length = e.length
  | [] => rfl
  | v :: vs => by
    unfold restoreE
    split
    · rw [List.length_set, restoreE_len e0 e vs]
    · exact restoreE_len e0 e vs
theorem restoreE_out {e0 e : Env} {j : Nat} : ∀ {vs : List Nat}, j ∉ vs → (restoreE e0 e vs)[j]? = e[j]?
  | [], _ => rfl
  | v :: vs, h => by
    unfold restoreE
    rw [List.mem_cons, not_or] at h
    split
    · rw [List.getElem?_set_ne (Ne.symm h.1), restoreE_out h.2]
    · exact restoreE_out h.2
theorem restoreE_in {e0 e : Env} {j : Nat} {s : Slot} (hl : e0.length = e.length) : ∀ {vs : List Nat}, j ∈ vs → (restoreE e0 e vs)[j]? = some s → e0[j]? = some s
  | v :: vs, h, es => by
    unfold restoreE at es
    by_cases hj : v = j
    · subst hj
      split at es
      · rename_i s' hs'
        have hl' := (List.getElem?_eq_some_iff.mp es).1
        rw [List.length_set] at hl'
        rw [List.getElem?_set_self hl'] at es
        cases es; exact hs'
      · rename_i hn
        have h1 := (List.getElem?_eq_some_iff.mp es).1
        rw [restoreE_len] at h1
        rw [List.getElem?_eq_none_iff] at hn
        omega
    · rcases List.mem_cons.mp h with z | z
      · exact absurd z.symm hj
      · split at es
        · rw [List.getElem?_set_ne hj] at es
          exact restoreE_in hl z es
        · exact restoreE_in hl z es
theorem okWipe_wiped (h : okWipe env vs = true) : okWipe (wipeE env vs) vs = true := List.all_eq_true.mpr fun j hj => by
  have hl : j < env.length := by
    rcases okWipe_at h hj with q | ⟨d, q⟩ <;> exact (List.getElem?_eq_some_iff.mp q).1
  have hl' : j < (wipeE env vs).length := by rw [wipeE_len]; exact hl
  cases q : (wipeE env vs)[j]? with
  | none => rw [List.getElem?_eq_none_iff] at q; omega
  | some s => rw [wipeE_in hj q]
/-- behind the block: its own names are what they were -/
theorem G.restore (g : G K c F' H' (wipe σ vs) env') {env0 : Env} {c0 : Ctx} {H0 : Hp} (g0 : G K c0 F H0 σ env0) (s : Same F F') (h : okWipe env0 vs = true) (hw : okWipe env' vs = true) : G K c F' H' σ (restoreE env0 env' vs) := by
  have hlen : env0.length = env'.length := by rw [← g0.len, ← g.len, wipe_length]
  have aux : ∀ (j : Nat) (s : Slot), (restoreE env0 env' vs)[j]? = some s → s ≠ .emp → (∀ d, s ≠ .frz d) → j ∉ vs ∧ env'[j]? = some s := fun j s es h1 h2 => by
    by_cases hj : j ∈ vs
    · have e0 := restoreE_in hlen hj es
      rcases okWipe_at h hj with q | ⟨d, q⟩
      · rw [e0] at q; cases q; exact absurd rfl h1
      · rw [e0] at q; cases q; exact absurd rfl (h2 d)
    · exact ⟨hj, by rw [restoreE_out hj] at es; exact es⟩
  have mne : ∀ {s : Slot}, s.mine = true → s ≠ .emp ∧ ∀ d, s ≠ .frz d := fun {s} m => ⟨fun z => (by subst z; cases m), fun d z => (by subst z; cases m)⟩
  refine g.slots (by rw [restoreE_len, ← g.len, wipe_length]) (fun j s' o es ev => ?_) (fun j k s t v hjk e1 e2 m1 m2 ev => ?_) (fun j s b es m ev => ?_) (fun j d es => ?_) fun j d es => ?_
  · by_cases hj : j ∈ vs
    · have e0 := restoreE_in hlen hj es
      have q := g0.slot j s' o e0 ev
      rcases okWipe_at h hj with z | ⟨d, z⟩
      · rw [e0] at z; cases z; trivial
      · rw [e0] at z; cases z
        obtain ⟨v, ev, r⟩ := q
        exact ⟨v, ev, r.mono s⟩
    · rw [restoreE_out hj] at es
      rw [← wipe_out (vs := vs) hj] at ev
      exact g.slot j s' o es ev
  · obtain ⟨h1, h1'⟩ := aux j s e1 (mne m1).1 (mne m1).2
    obtain ⟨h2, h2'⟩ := aux k t e2 (mne m2).1 (mne m2).2
    rw [← wipe_out (vs := vs) h1] at ev
    rw [← wipe_out (vs := vs) h2]
    exact g.dist j k s t v hjk h1' h2' m1 m2 ev
  · obtain ⟨h1, h1'⟩ := aux j s es (mne m).1 (mne m).2
    rw [← wipe_out (vs := vs) h1] at ev
    exact g.tmpNo h1' m ev
  · obtain ⟨h1, h1'⟩ := aux j _ es (fun z => by cases z) (fun d z => by cases z)
    exact ⟨h1', (wipe_out h1).symm⟩
  · have hj : j ∉ vs := fun z => by
      rcases okWipe_at hw z with q | ⟨d', q⟩ <;> (rw [es] at q; cases q)
    rw [restoreE_out hj]; exact es
end

/-! ### the tests of a comprehension -/
abbrev JTs (X : Cx) (ifs : List Expr) (t : T) : Prop := PTs X ifs (tT X.K t)
def tYes' : T := fun e => some (true, e)
theorem _root_.L2.PTs.imp {X : Cx} {e : List Expr} {t t' : TT} (h : PTs X e t) (i : ∀ σ H Q, t' σ H Q → t σ H Q) : PTs X e t' := ⟨fun pins s σ H Q I hw => h.run pins s σ H Q I (i σ H Q hw)⟩
section
variable {X : Cx}
theorem jts_nil : JTs X [] tYes' := pts_nil.imp fun σ H Q w => by
  obtain ⟨c, F, env, b, env', g, hf, q⟩ := w
  cases hf
  exact q F H g (Same.refl F)
theorem jts_one {c : Expr} {t : T} (h : JT X c t) : JTs X [c] t := pts_one h
end

/-! ### [f for tg in it if t] -/
def loopC (tg : TgE) (t : T) (f : E) (vs : List Nat) : List D → Env → Option (List D × Env)
  | [], e => some ([], e)
  | d :: ds, e => do
    let e1 ← tg d (wipeE e vs)
    let (b, e2) ← t e1
    if b then do
      let (r, e3) ← f e2
      let (d', e4) ← take r e3
      if okWipe e4 vs then do
        let (rest, e5) ← loopC tg t f vs ds e4
        pure (d' :: rest, e5)
      else none
    else if okWipe e2 vs then loopC tg t f vs ds e2 else none
def eComp (it : I) (tg : TgE) (t : T) (f : E) (vs : List Nat) : E := fun e => do
  let (ds, l, e1) ← it e
  if okWipe e1 vs then do
    let (out, e2) ← loopC tg t f vs ds e1
    let e3 ← unlockE l (restoreE e1 (wipeE e2 vs) vs)
    pure (.new (.list out), e3)
  else none
theorem loopC_ok {tg : TgE} {t : T} {f : E} {vs : List Nat} : ∀ {ds : List D} {e e' : Env} {out : List D}, okWipe e vs = true → loopC tg t f vs ds e = some (out, e') → okWipe e' vs = true
  | [], _, _, _, h, hl => by cases hl; exact h
  | d :: ds, e, e', out, h, hl => by
    simp only [loopC, bind, Option.bind_eq_some_iff] at hl
    obtain ⟨e1, h1, ⟨b, e2⟩, h2, h3⟩ := hl
    cases b with
    | true =>
      simp only [if_true, Option.bind_eq_some_iff] at h3
      obtain ⟨⟨r, e3⟩, h4, ⟨d', e4⟩, h5, h6⟩ := h3
      split at h6
      · rename_i hw
        simp only [Option.bind_eq_some_iff, pure, Option.some.injEq] at h6
        obtain ⟨⟨rest, e5⟩, h7, e⟩ := h6
        cases e
        exact loopC_ok hw h7
      · cases h6
    | false =>
      dsimp only at h3
      rw [if_neg Bool.false_ne_true] at h3
      split at h3
      · rename_i hw; exact loopC_ok hw h3
      · cases h3
theorem off_wipe {ws vs : List Nat} {σ σ' : L2.St} (h : Off ws (wipe σ vs) σ') (hs : ∀ j ∈ ws, j ∈ vs) : wipe σ' vs = wipe σ vs := by
  refine List.ext_getElem? fun j => ?_
  by_cases hj : j ∈ vs
  · have a1 : ∀ τ : L2.St, τ.length = σ.length → (wipe τ vs)[j]? = if j < σ.length then some none else none := fun τ hτ => by
      by_cases hl : j < σ.length
      · rw [if_pos hl]
        have hlt : j < (wipe τ vs).length := by rw [wipe_length, hτ]; exact hl
        cases q : (wipe τ vs)[j]? with
        | none => rw [List.getElem?_eq_none_iff] at q; omega
        | some o =>
          cases o with
          | none => rfl
          | some v => exact absurd hj (wipe_some q).2
      · rw [if_neg hl, List.getElem?_eq_none_iff, wipe_length, hτ]; omega
    rw [a1 σ' (by rw [h.1, wipe_length]), a1 σ rfl]
  · rw [wipe_out hj]
    exact h.2 j fun z => hj (hs j z)
section
variable {X : Cx} {tg iter elt : Expr} {ifs : List Expr} {it : I} {ga : TgE} {ws : List Nat} {t : T} {f : E} {scope : Scope} {own : List (Str × Nat)} {pos : Pos}
theorem comp_ok {vs : List Nat} (hws : ∀ j ∈ ws, j ∈ vs) {σ : L2.St} {H : Hp} {Q : VK} {ti : TI} {pre : Pre} (h : ItOk X.K it ti pre) (w : tEp X.K pre (eComp it ga t f vs) σ H Q) :
    tLc (fun σ H R => ti σ H fun J H' => Siz X.K H' → R J H') (tG X.K ga ws) (tT X.K t) (tE X.K f) vs σ H Q := by
  obtain ⟨c, F, env, res, env', g, hpre, hf, q⟩ := w
  simp only [eComp, bind, Option.bind_eq_some_iff] at hf
  obtain ⟨⟨ds, l, e1⟩, h1, h2⟩ := hf
  dsimp only at h2
  split at h2
  · rename_i hw1
    simp only [Option.bind_eq_some_iff, pure, Option.some.injEq] at h2
    obtain ⟨⟨out, e2⟩, h3, e3, h4, e⟩ := h2
    cases e
    refine h.run g hpre h1 fun J c' F1 H1 hk g1 s1 W hsz siz D hD => ?_
    obtain ⟨Gp, Y, wk, hG, hY⟩ := W
    have hn := hsz siz
    obtain ⟨n1, ⟨n2, n3⟩, n4⟩ := g1.new hD
    have hlkD : ∀ i, c'.lk i ≠ some D := fun i z => (g1.lkc i D z).1 n3
    refine lc_it wk (fun i H' => ∃ F' e acc xs rest, G X.K (c'.hold D (.lst xs)) F' H' (wipe σ vs) (wipeE e vs) ∧ okWipe e vs = true ∧ Same F1 F' ∧ RpA X.K F' xs acc ∧ xs.length ≤ i ∧ loopC ga t f vs (ds.drop i) e = some (rest, e2) ∧ out = acc ++ rest)
      ⟨F1, e1, [], [], out, (g1.hold hD).wiped hw1, hw1, Same.refl F1, .nil, Nat.zero_le _, h3, rfl⟩ (fun i H' _ P => ?_) (fun i x H2 H3 hi P y => ?_) fun H' P => ?_
    · obtain ⟨F', e, acc, xs, rest, g', _, s', _⟩ := P
      exact hG _ F' H' _ _ (CtxLe.hold n3) g' s'
    · obtain ⟨F2, e, acc, xs, rest, g2, hw, s2, ra, hle, hl, ho⟩ := P
      obtain ⟨d, F3, hd, g3, s3, rd, _⟩ := hY i H2 x H3 _ F2 _ _ hi (CtxLe.hold n3) g2 s2 y
      have hdrop : ds.drop i = d :: ds.drop (i + 1) := by
        obtain ⟨hlt, e'⟩ := List.getElem?_eq_some_iff.mp hd
        rw [← e']; exact List.drop_eq_getElem_cons hlt
      rw [hdrop] at hl
      simp only [loopC, bind, Option.bind_eq_some_iff] at hl
      obtain ⟨ea, h5, ⟨b, eb⟩, h6, h7⟩ := hl
      refine ⟨_, F3, _, d, ea, g3, rd, h5, fun σ4 F4 H4 o4 g4 s4 => ⟨off_wipe o4 hws, _, F4, ea, b, eb, g4, h6, fun F5 H5 g5 s5 => ?_⟩⟩
      have s15 : Same F1 F5 := ((s2.trans s3).trans s4).trans s5
      have s25 : Same F2 F5 := (s3.trans s4).trans s5
      cases b with
      | true =>
        simp only [if_true, Option.bind_eq_some_iff] at h7
        obtain ⟨⟨r, ec⟩, h8, ⟨d', ed⟩, h9, h10⟩ := h7
        split at h10
        · rename_i hw4
          simp only [Option.bind_eq_some_iff, pure, Option.some.injEq] at h10
          obtain ⟨⟨rest', e5⟩, h11, e12⟩ := h10
          cases e12
          refine iteT ⟨_, F5, eb, r, ec, g5, h8, fun v F6 H6 g6 s6 r6 => ?_⟩
          obtain ⟨F7, g7, s7, r7⟩ := take_ok g6 r6 h9
          have s27 := (s25.trans s6).trans s7
          refine ⟨xs, g7.held.1, by omega, F7, ed, acc ++ [d'], xs ++ [v], rest', ?_, hw4, (s15.trans s6).trans s7, (ra.mono s27).append (.cons r7 .nil), by simp; omega, h11, by rw [ho]; simp⟩
          have g8 := (g7.wiped hw4).rehold (u := .lst (xs ++ [v])) n2 hlkD
          rw [off_wipe o4 hws] at g8
          exact g8
        · cases h10
      | false =>
        rw [if_neg Bool.false_ne_true] at h7
        split at h7
        · rename_i hw4
          refine iteF ⟨F5, eb, acc, xs, rest, ?_, hw4, s15, ra.mono s25, by omega, h7, ho⟩
          have g8 := g5.wiped hw4
          rw [off_wipe o4 hws] at g8
          exact g8
        · cases h7
    · obtain ⟨F', e, acc, xs, rest, g', hw, s', ra, hle, hl, ho⟩ := P
      rw [List.drop_length] at hl
      cases hl
      rw [List.append_nil] at ho
      subst ho
      have g2 := g'.restore (g1.hold (o := .lst xs) hD) s' hw1 (okWipe_wiped hw)
      obtain ⟨m1, m2, m3⟩ := g2.held
      have g3 := g2.drop n3 hlkD
      have r3 : RsOk X.K c' F' H' σ (restoreE e1 (wipeE e2 vs) vs) (.ref D) (.new (.list out)) := ⟨D, rfl, m2, ⟨n2, n3⟩, .lst m1 ra, m3⟩
      exact q _ F' H' (unlock_ok hk g3 h4) (s1.trans s') (unlock_rs hk g3 h4 r3)
  · cases h2
theorem je_compG {ti : TI} {pre : Pre} (h : ItOk X.K it ti pre) (hc : X.calm = true) (hN : X.N.Nodup) (hi : PI X tg iter ti) (ok : BlkOk X.N X.env.scope scope own)
    (hg : ∀ (s : Shared) (H : Hp) (C : Addr) (cl : List (Str × Addr)) (fp : List Addr), JG (X.blk s H scope (compEnvC scope cl C X.env) fp) tg ga ws) (ht : ∀ (s : Shared) (H : Hp) (C : Addr) (cl : List (Str × Addr)) (fp : List Addr), JTs (X.blk s H scope (compEnvC scope cl C X.env) fp) ifs t)
    (he : ∀ (s : Shared) (H : Hp) (C : Addr) (cl : List (Str × Addr)) (fp : List Addr), JE (X.blk s H scope (compEnvC scope cl C X.env) fp) elt f) (hws : ∀ j ∈ ws, j ∈ own.map (·.2) := by decide) (hs : ∀ x, foldedSetIterable iter X.env x = pure x := by intro _; rfl) :
    PE X (.ListComp elt [⟨tg, iter, ifs, 0⟩] scope pos) (tEp X.K pre (eComp it ga t f (own.map (·.2)))) := (pe_lc hc hN hi.siz ok hg ht he hs).imp fun σ H Q w => comp_ok hws h w
theorem je_comp (hc : X.calm = true) (hN : X.N.Nodup) (hi : JI X tg iter it) (ok : BlkOk X.N X.env.scope scope own)
    (hg : ∀ (s : Shared) (H : Hp) (C : Addr) (cl : List (Str × Addr)) (fp : List Addr), JG (X.blk s H scope (compEnvC scope cl C X.env) fp) tg ga ws) (ht : ∀ (s : Shared) (H : Hp) (C : Addr) (cl : List (Str × Addr)) (fp : List Addr), JTs (X.blk s H scope (compEnvC scope cl C X.env) fp) ifs t)
    (he : ∀ (s : Shared) (H : Hp) (C : Addr) (cl : List (Str × Addr)) (fp : List Addr), JE (X.blk s H scope (compEnvC scope cl C X.env) fp) elt f) (hws : ∀ j ∈ ws, j ∈ own.map (·.2) := by decide) (hs : ∀ x, foldedSetIterable iter X.env x = pure x := by intro _; rfl) :
    JE X (.ListComp elt [⟨tg, iter, ifs, 0⟩] scope pos) (eComp it ga t f (own.map (·.2))) := (je_compG (pre := fun _ _ _ _ _ => True) ItOk.std hc hN hi ok hg ht he hws hs).imp fun σ H Q w => tEp.of (fun _ _ _ _ _ => trivial) w
theorem js_setCompG {ti : TI} {pre : Pre} (h : ItOk X.K it ti pre) {i : Nat} {y : Str} {py spos : Pos} (hc : X.calm = true) (hN : X.N.Nodup) (hi : PI X tg iter ti) (ok : BlkOk X.N X.env.scope scope own)
    (hg : ∀ (s : Shared) (H : Hp) (C : Addr) (cl : List (Str × Addr)) (fp : List Addr), JG (X.blk s H scope (compEnvC scope cl C X.env) fp) tg ga ws) (ht : ∀ (s : Shared) (H : Hp) (C : Addr) (cl : List (Str × Addr)) (fp : List Addr), JTs (X.blk s H scope (compEnvC scope cl C X.env) fp) ifs t)
    (he : ∀ (s : Shared) (H : Hp) (C : Addr) (cl : List (Str × Addr)) (fp : List Addr), JE (X.blk s H scope (compEnvC scope cl C X.env) fp) elt f) (hws : ∀ j ∈ ws, j ∈ own.map (·.2) := by decide) (hs : ∀ x, foldedSetIterable iter X.env x = pure x := by intro _; rfl)
    (hy : X.N[i]? = some y := by rfl) (hyl : X.env.scope.names.lookup y = some .local := by rfl)
    (hsw : swapsWith (.ListComp elt [⟨tg, iter, ifs, 0⟩] scope pos) (some (.Name y py)) spos.line X.env = pure true := by exact sw_true rfl rfl rfl (by decide +kernel)) :
    PS X (.Assign [.Name y py] (.ListComp elt [⟨tg, iter, ifs, 0⟩] scope pos) spos) (tSp X.K pre (sAsg i (eComp it ga t f (own.map (·.2))))) := (ps_setLc hc hN hy hyl hsw hi.siz ok hg ht he hs).imp fun Dn σ H w => by
  obtain ⟨c, F, env, o, g, hpre, hf, q⟩ := w
  simp only [sAsg, bind, Option.bind_eq_some_iff, pure, Option.some.injEq] at hf
  obtain ⟨⟨r, e1⟩, h1, e2, h2, e⟩ := hf
  cases e
  refine comp_ok (Q := fun x H1 => gName i x σ H1 Dn.nx) hws h ⟨c, F, env, r, e1, g, hpre, h1, fun v F1 H1 g1 s1 r1 => ?_⟩
  obtain ⟨F2, g2, s2⟩ := store_okS g1 r1 h2
  exact q _ F2 H1 g2 (s1.trans s2)
theorem js_setComp {i : Nat} {y : Str} {py spos : Pos} (hc : X.calm = true) (hN : X.N.Nodup) (hi : JI X tg iter it) (ok : BlkOk X.N X.env.scope scope own)
    (hg : ∀ (s : Shared) (H : Hp) (C : Addr) (cl : List (Str × Addr)) (fp : List Addr), JG (X.blk s H scope (compEnvC scope cl C X.env) fp) tg ga ws) (ht : ∀ (s : Shared) (H : Hp) (C : Addr) (cl : List (Str × Addr)) (fp : List Addr), JTs (X.blk s H scope (compEnvC scope cl C X.env) fp) ifs t)
    (he : ∀ (s : Shared) (H : Hp) (C : Addr) (cl : List (Str × Addr)) (fp : List Addr), JE (X.blk s H scope (compEnvC scope cl C X.env) fp) elt f) (hws : ∀ j ∈ ws, j ∈ own.map (·.2) := by decide) (hs : ∀ x, foldedSetIterable iter X.env x = pure x := by intro _; rfl)
    (hy : X.N[i]? = some y := by rfl) (hyl : X.env.scope.names.lookup y = some .local := by rfl)
    (hsw : swapsWith (.ListComp elt [⟨tg, iter, ifs, 0⟩] scope pos) (some (.Name y py)) spos.line X.env = pure true := by exact sw_true rfl rfl rfl (by decide +kernel)) :
    JS X (.Assign [.Name y py] (.ListComp elt [⟨tg, iter, ifs, 0⟩] scope pos) spos) (sAsg i (eComp it ga t f (own.map (·.2)))) := (js_setCompG (pre := fun _ _ _ _ _ => True) ItOk.std hc hN hi ok hg ht he hws hs hy hyl hsw).imp fun Dn σ H w => by
  obtain ⟨c, F, env, o, g, hf, q⟩ := w
  exact ⟨c, F, env, o, g, trivial, hf, q⟩
end
end Ev
set_option Elab.async false
set_option linter.all false
set_option maxRecDepth 100000
set_option maxHeartbeats 1000000
/-! Ev13: functions: what is passed, what comes back. -/
namespace Ev
open PySem PySem.Spec PyProof.Rows L2

/-- a function on data: the arguments → the outcome (.shr, .new or .cst) and what the lent list (the first argument) holds behind -/
abbrev Fd := List D → Option (Rs × List D)
section
variable (K : PySem.W.Frag)
def RetOk (F H H0 : Hp) (v : V) : Rs → Prop
  | .shr d => Rp K F v d
  | .new d => ∃ a, v = .ref a ∧ F a = none ∧ H0 a = none ∧ Ob K F H a d
  | .cst d => Cst K v d
  | .var _ => False
/-- the lent list behind -/
def IoE (F H : Hp) (a : Addr) (xs0 : List V) (ds0 : List D) (w : List D) : Prop :=
  ∃ xs, H a = some (.lst xs) ∧ RpA K F xs w ∧ ∀ p ∈ xs.zip w, isRef p.1 = false ∨ p ∈ xs0.zip ds0
structure EndF (F H F' H' : Hp) (io : Option Addr) : Prop where
  same : Same F F'
  sub : Sub F' H'
  frn : ∀ b, F' b ≠ none → F b ≠ none ∨ H b = none
  old : ∀ b o, H b = some o → io ≠ some b → H' b = some o
  dom : ∀ b, H b ≠ none → H' b ≠ none
  fz : ∀ a ob u, H' a = some (.frz ob u) → F' a = some u → H a = some (.frz ob u)
  tf : Tf F' H'
/-- the promise of a function that changes nothing -/
def spF (f : Fd) : Sp := fun vs H Q _ => ∃ F ds r w, Sub F H ∧ Tf F H ∧ RpA K F vs ds ∧ f ds = some (r, w) ∧
  ∀ v F' H', EndF F H F' H' none → RetOk K F' H' H v r → Q v H'
/-- .. of one that changes its first argument, a list -/
def spW (f : Fd) : Sp := fun vs H Q _ => ∃ F a xs ds0 vs' ds r w, vs = .ref a :: vs' ∧ Sub F H ∧ Tf F H ∧ F a = none ∧ H a = some (.lst xs) ∧ RpA K F xs ds0 ∧ RpA K F vs' ds ∧ f (.list ds0 :: ds) = some (r, w) ∧
  ∀ v F' H', EndF F H F' H' (some a) → RetOk K F' H' H v r → F' a = none → IoE K F' H' a xs ds0 w → Q v H'
end

/-! ### the body -/
def retR (r : Rs) (e : Env) : Option Rs := match r with
  | .var i => match e[i]? with
    | some (.own d) => some (.new d)
    | some (.frz d) => some (.shr d)
    | _ => none
  | r => some r
def bodyR (o : Option Out) (k : Rs → Env → Option (Rs × List D)) : Option (Rs × List D) := match o with
  | some (.nx e) => k (.shr .none) e
  | some (.rt r e) => match retR r e with
    | some r' => k r' e
    | none => none
  | _ => none
def envF (N : Nat) (ds : List D) : Env := ds.map .frz ++ List.replicate (N - ds.length) .emp
/-- a def of n parameters and N names -/
def fnF (n N : Nat) (f : S) : Fd := fun ds => if ds.length = n then bodyR (f (envF N ds)) fun r _ => some (r, []) else none
def ioW (e : Env) : Option (List D) := match e with
  | .io (.list w) :: _ => some w
  | _ => none
theorem ioW_at {e : Env} {w : List D} (h : ioW e = some w) : e[0]? = some (.io (.list w)) := by
  unfold ioW at h
  split at h
  · cases h; rfl
  · cases h
def fnW (n N : Nat) (f : S) : Fd
  | .list d0 :: ds => if ds.length + 1 = n then bodyR (f (.io (.list d0) :: envF (N - 1) ds)) fun r e => (ioW e).map fun w => (r, w) else none
  | _ => none

section
variable {K : PySem.W.Frag} {c : Ctx} {F H : Hp} {σ : L2.St} {env : Env} {v : V}
theorem retR_ok {r r' : Rs} (g : G K c F H σ env) (h : RsOk K c F H σ env v r) (e : retR r env = some r') : RetOk K F H c.H0 v r' := by
  cases r with
  | shr d => cases e; exact h
  | new d => cases e; obtain ⟨a, h1, h2, h3, h4, _⟩ := h; exact ⟨a, h1, h2, h3.1, h4⟩
  | cst d => cases e; exact h
  | var i =>
    simp only [retR] at e
    have ev : σ[i]? = some (some v) := h
    split at e
    · rename_i d es
      cases e
      obtain ⟨a, ev', h1, h2, h3⟩ := g.slot i _ _ es ev
      cases ev'
      exact ⟨a, rfl, h1, h2, h3⟩
    · rename_i d es
      cases e
      obtain ⟨v', ev', h1⟩ := g.slot i _ _ es ev
      cases ev'
      exact h1
    · cases e
theorem envF_len {N : Nat} {ds : List D} (h : ds.length ≤ N) : (envF N ds).length = N := by
  unfold envF
  rw [List.length_append, List.length_map, List.length_replicate]
  omega
theorem envF_at {N : Nat} {ds : List D} {i : Nat} {s : Slot} (h : (envF N ds)[i]? = some s) : s = .emp ∨ ∃ d, ds[i]? = some d ∧ s = .frz d := by
  unfold envF at h
  by_cases hi : i < ds.length
  · rw [List.getElem?_append_left (by rw [List.length_map]; exact hi), List.getElem?_map, List.getElem?_eq_getElem hi] at h
    cases h
    exact .inr ⟨_, List.getElem?_eq_getElem hi, rfl⟩
  · rw [List.getElem?_append_right (by rw [List.length_map]; omega)] at h
    exact .inl (List.eq_of_mem_replicate (List.mem_of_getElem? h))
theorem start_at {N : List Str} {vs : List V} {i : Nat} {v : V} (h : vs[i]? = some v) : (L2.start N vs)[i]? = some (some v) := by
  unfold L2.start
  have hi : i < vs.length := (List.getElem?_eq_some_iff.mp h).1
  rw [List.getElem?_append_left (by rw [List.length_map]; exact hi), List.getElem?_map, h]
  rfl
theorem start_len {N : List Str} {vs : List V} (h : vs.length ≤ N.length) : (L2.start N vs).length = N.length := by
  unfold L2.start
  rw [List.length_append, List.length_map, List.length_replicate]
  omega
theorem g_startF {N : List Str} {vs : List V} {ds : List D} (s : Sub F H) (tf : Tf F H) (r : RpA K F vs ds) (hl : ds.length ≤ N.length) : G K ⟨F, H, none, fun _ => none, fun _ => none, fun _ => none⟩ F H (L2.start N vs) (envF N.length ds) := by
  have hv := r.length
  have nomine : ∀ {i : Nat} {t : Slot}, (envF N.length ds)[i]? = some t → t.mine = true → False := fun e m => by
    rcases envF_at e with q | ⟨d, _, q⟩ <;> (subst q; cases m)
  refine ⟨s, by rw [start_len (by omega), envF_len hl], fun i sl o es ev => ?_, fun i j t u v hij e1 e2 m1 m2 => (nomine e1 m1).elim, fun b o e _ => e, Same.refl F, fun b e => .inl e, fun b e => e, fun b q e => (by cases e), fun a o e => (by cases e), fun a o e => (by cases e), fun i d e => ?_, fun i b e => (by cases e), fun a ob u h1 h2 => .inr h1, tf⟩
  · rcases envF_at es with q | ⟨d, hd, q⟩
    · subst q; trivial
    · subst q
      obtain ⟨v, hv', rv⟩ := r.at' hd
      rw [start_at hv'] at ev
      cases ev
      exact ⟨v, rfl, rv⟩
  · rcases envF_at e with q | ⟨d, _, q⟩ <;> cases q
theorem g_startW {N : List Str} {vs : List V} {ds ds0 : List D} {a : Addr} {xs : List V} (s : Sub F H) (tf : Tf F H) (hF : F a = none) (ha : H a = some (.lst xs)) (rx : RpA K F xs ds0) (r : RpA K F vs ds) (hl : ds.length + 1 ≤ N.length) :
    G K ⟨F, H, some (a, xs, ds0), fun _ => none, fun _ => none, fun _ => none⟩ F H (L2.start N (.ref a :: vs)) (.io (.list ds0) :: envF (N.length - 1) ds) := by
  have hv := r.length
  have at_ : ∀ {i : Nat} {t : Slot}, (Slot.io (.list ds0) :: envF (N.length - 1) ds)[i]? = some t → (i = 0 ∧ t = .io (.list ds0)) ∨ t = .emp ∨ ∃ j d, i = j + 1 ∧ ds[j]? = some d ∧ t = .frz d := fun {i t} e => by
    cases i with
    | zero => cases e; exact .inl ⟨rfl, rfl⟩
    | succ j =>
      rcases envF_at (show (envF (N.length - 1) ds)[j]? = some t from e) with q | ⟨d, q1, q2⟩
      · exact .inr (.inl q)
      · exact .inr (.inr ⟨j, d, rfl, q1, q2⟩)
  have mine0 : ∀ {i : Nat} {t : Slot}, (Slot.io (.list ds0) :: envF (N.length - 1) ds)[i]? = some t → t.mine = true → i = 0 := fun e m => by
    rcases at_ e with q | q | ⟨_, _, _, _, q⟩
    · exact q.1
    · subst q; cases m
    · subst q; cases m
  refine ⟨s, ?_, fun i sl o es ev => ?_, fun i j t u v hij e1 e2 m1 m2 => absurd ((mine0 e1 m1).trans (mine0 e2 m2).symm) hij, fun b o e _ => e, Same.refl F, fun b e => .inl e, fun b e => e, fun b q e => ?_, fun a o e => (by cases e), fun a o e => (by cases e), fun i d e => ?_, fun i b e => (by cases e), fun a ob u h1 h2 => .inr h1, tf⟩
  · rw [start_len (by rw [List.length_cons]; omega), List.length_cons, envF_len (by omega)]; omega
  · rcases at_ es with ⟨q1, q2⟩ | q | ⟨j, d, q1, q2, q3⟩
    · subst q1; subst q2
      rw [start_at (vs := .ref a :: vs) (v := .ref a) rfl] at ev
      cases ev
      exact ⟨a, rfl, hF, xs, ds0, xs, ds0, rfl, ha, rx, rfl, fun p hp => .inr hp⟩
    · subst q; trivial
    · subst q1; subst q3
      obtain ⟨v, hv', rv⟩ := r.at' q2
      rw [start_at (vs := .ref a :: vs) (i := j + 1) (v := v) hv'] at ev
      cases ev
      exact ⟨v, rfl, rv⟩
  · cases e
    exact ⟨fun z => by (have z' : H a = none := z; rw [ha] at z'; cases z'), hF⟩
  · rcases at_ e with ⟨_, q⟩ | q | ⟨_, _, _, _, q⟩ <;> cases q
theorem G.endF {F0 H0 : Hp} {t : Hp} {l : Nat → Option Addr} (g : G K ⟨F0, H0, none, t, fun _ => none, l⟩ F H σ env) : EndF F0 H0 F H none :=
  ⟨g.fr0, g.sub, g.frn, fun b o e _ => g.old b o e fun q z => (by cases z), g.dom, fun a ob u h1 h2 => (g.fz a ob u h1 h2).elim (fun z => by cases z) id, g.tf⟩
theorem G.endW {F0 H0 : Hp} {a : Addr} {q : List V × List D} {t : Hp} {l : Nat → Option Addr} (g : G K ⟨F0, H0, some (a, q), t, fun _ => none, l⟩ F H σ env) : EndF F0 H0 F H (some a) :=
  ⟨g.fr0, g.sub, g.frn, fun b o e n => g.old b o e fun q' z => (by cases z; exact n rfl), g.dom, fun a ob u h1 h2 => (g.fz a ob u h1 h2).elim (fun z => by cases z) id, g.tf⟩

theorem body_F {n : Nat} {N : List Str} {f : S} {vs : List V} {Q : VK} {E : XK} (hn : n ≤ N.length) (h : spF K (fnF n N.length f) vs H Q E) : tS K f { nx := fun _ H' => Q .non H', rt := Q } (L2.start N vs) H := by
  obtain ⟨F, ds, r, w, s, tf, rv, hf, q⟩ := h
  unfold fnF at hf
  split at hf
  · rename_i hl
    unfold bodyR at hf
    split at hf
    · rename_i e he
      cases hf
      exact ⟨_, F, _, _, g_startF s tf rv (by omega), he, fun σ' F' H' g' s' => q .non F' H' g'.endF .non⟩
    · rename_i r0 e he
      split at hf
      · rename_i r' hr
        cases hf
        exact ⟨_, F, _, _, g_startF s tf rv (by omega), he, fun v σ' F' H' g' s' ro => q v F' H' g'.endF (retR_ok g' ro hr)⟩
      · cases hf
    · cases hf
  · cases hf
theorem body_W {n : Nat} {N : List Str} {f : S} {vs : List V} {Q : VK} {E : XK} (hn : n ≤ N.length) (h : spW K (fnW n N.length f) vs H Q E) : tS K f { nx := fun _ H' => Q .non H', rt := Q } (L2.start N vs) H := by
  obtain ⟨F, a, xs, ds0, vs', ds, r, w, rfl, s, tf, hF, ha, rx, rv, hf, q⟩ := h
  simp only [fnW] at hf
  split at hf
  · rename_i hl
    have fin : ∀ {σ' : L2.St} {F' H' : Hp} {e : Env} {w : List D}, G K ⟨F, H, some (a, xs, ds0), fun _ => none, fun _ => none, fun _ => none⟩ F' H' σ' e → e[0]? = some (.io (.list w)) → F' a = none ∧ IoE K F' H' a xs ds0 w := fun {σ' F' H' e w} g' e0 => by
      obtain ⟨v, hv⟩ := g'.val e0 rfl
      obtain ⟨b, eb, hb, io⟩ := g'.slot 0 _ _ e0 hv
      obtain ⟨ys, es, ys0, es0, h1, h2, h3, h4, h5⟩ := io
      cases h1
      cases h4
      exact ⟨hb, ys, h2, h3, h5⟩
    unfold bodyR at hf
    split at hf
    · rename_i e he
      obtain ⟨w', e0, ew⟩ := Option.map_eq_some_iff.mp hf
      cases ew
      exact ⟨_, F, _, _, g_startW s tf hF ha rx rv (by omega), he, fun σ' F' H' g' s' => q .non F' H' g'.endW .non (fin g' (ioW_at e0)).1 (fin g' (ioW_at e0)).2⟩
    · rename_i r0 e he
      split at hf
      · rename_i r' hr
        obtain ⟨w', e0, ew⟩ := Option.map_eq_some_iff.mp hf
        cases ew
        exact ⟨_, F, _, _, g_startW s tf hF ha rx rv (by omega), he, fun v σ' F' H' g' s' ro => q v F' H' g'.endW (retR_ok g' ro hr) (fin g' (ioW_at e0)).1 (fin g' (ioW_at e0)).2⟩
      · cases hf
    · cases hf
  · cases hf
end
end Ev
set_option Elab.async false
set_option linter.all false
set_option maxRecDepth 100000
set_option maxHeartbeats 1000000
/-! Ev14: calls of functions. -/
namespace Ev
open PySem PySem.Spec PyProof.Rows L2

abbrev AR := Env → Option (List Rs × Env)
def RsA (K : PySem.W.Frag) (c : Ctx) (F H : Hp) (σ : L2.St) (env : Env) : List V → List Rs → Prop
  | [], [] => True
  | v :: vs, r :: rs => (RsOk K c F H σ env v r ∧ r.settled = true) ∧ RsA K c F H σ env vs rs
  | _, _ => False
def tAR (K : PySem.W.Frag) (f : AR) : TA := fun σ H Q => ∃ c F env rs env', G K c F H σ env ∧ f env = some (rs, env') ∧ ∀ vs F' H', G K c F' H' σ env' → Same F F' → RsA K c F' H' σ env' vs rs → Q vs H'
abbrev JAR (X : Cx) (es : List Expr) (f : AR) : Prop := PA X es (tAR X.K f)
def arNil : AR := fun e => some ([], e)
def arCons (f : E) (g : AR) : AR := fun e => do
  let (r, e1) ← f e
  let (rs, e2) ← g e1
  pure (settle r :: rs, e2)
def takeAll : List Rs → Env → Option (List D × Env)
  | [], e => some ([], e)
  | r :: rs, e => do
    let (d, e1) ← take r e
    let (ds, e2) ← takeAll rs e1
    pure (d :: ds, e2)
def flatD : D → Bool
  | .list ds => ds.all scalD
  | .dict kvs => kvs.all fun kv => scalD kv.2
  | _ => false
/-- the outcome holds on to nothing -/
def fitR : Rs → Bool
  | .shr d => scalD d
  | .new d => flatD d
  | .cst _ => true
  | .var _ => false
def lentOf (e : Env) (i : Nat) : Option (List D) := match e[i]? with
  | some (.own (.list ds)) => some ds
  | some (.io (.list ds)) => some ds
  | _ => none
def setLent (e : Env) (i : Nat) (w : List D) : Option Env := match e[i]? with
  | some (.own _) => some (e.set i (.own (.list w)))
  | some (.io _) => some (e.set i (.io (.list w)))
  | _ => none
/-- the datum, frozen for a call's time: what is walked may be handed on, too -/
def takeL : Rs → Env → Option D
  | .shr d, _ => some d
  | .new _, _ => none
  | .var i, e => match e[i]? with
    | some (.frz d) => some d
    | some (.own d) => some d
    | some (.lk d) => some d
    | _ => none
  | .cst d, _ => if kcD d then some d else none
def takeAllL : List Rs → Env → Option (List D)
  | [], _ => some []
  | r :: rs, e => do
    let d ← takeL r e
    let ds ← takeAllL rs e
    pure (d :: ds)
def callF (f : Fd) (a : AR) : E := fun e => do
  let (rs, e1) ← a e
  match takeAll rs e1 with
  | some (ds, e2) => do
    let (r, _) ← f ds
    pure (r, if fitR r then e1 else e2)
  | none => do
    let ds ← takeAllL rs e1
    let (r, _) ← f ds
    if fitR r then pure (r, e1) else none
def callW (f : Fd) (a : AR) : E := fun e => do
  let (rs, e1) ← a e
  match rs with
  | .var i :: rest => do
    let (ds, e2) ← takeAll rest e1
    let d0 ← lentOf e2 i
    let (r, w) ← f (.list d0 :: ds)
    let e3 ← setLent (if fitR r then e1 else e2) i w
    pure (r, e3)
  | _ => none

section
variable {X : Cx} {a : Expr} {es : List Expr} {fa : E} {fs : AR}
theorem RsA.keep {K : PySem.W.Frag} {c : Ctx} {F F' H H' : Hp} {σ : L2.St} {env env' : Env} (s : Same F F') : ∀ {vs : List V} {rs : List Rs}, RsA K c F H σ env vs rs → RsA K c F' H' σ env' vs rs
  | [], [], _ => trivial
  | v :: vs, r :: rs, h => ⟨⟨h.1.1.keep h.1.2 s, h.1.2⟩, RsA.keep s h.2⟩
  | [], _ :: _, h => h.elim
  | _ :: _, [], h => h.elim
theorem jar_nil : JAR X [] arNil := pa_nil.imp fun σ H Q w => by
  obtain ⟨c, F, env, ds, env', g, hf, q⟩ := w
  cases hf
  exact q [] F H g (Same.refl F) trivial
theorem jar_cons (ha : JE X a fa) (hr : JAR X es fs) (hs : starEach (a :: es) X.env = (false, eval a X.env) :: starEach es X.env := by rfl) : JAR X (a :: es) (arCons fa fs) := (pa_cons ha hr hs).imp fun σ H Q w => by
  obtain ⟨c, F, env, ds, env', g, hf, q⟩ := w
  simp only [arCons, bind, Option.bind_eq_some_iff, pure, Option.some.injEq] at hf
  obtain ⟨⟨r, e1⟩, h1, ⟨rs, e2⟩, h2, e⟩ := hf
  cases e
  refine ⟨c, F, env, r, e1, g, h1, fun v F1 H1 g1 s1 r1 => ?_⟩
  obtain ⟨F2, g2, s2, r2⟩ := settle_ok g1 r1
  exact ⟨c, F2, e1, rs, _, g2, h2, fun vs F3 H3 g3 s3 r3 => q (v :: vs) F3 H3 g3 ((s1.trans s2).trans s3) ⟨⟨r2.keep (settle_settled r) s3, settle_settled r⟩, r3⟩⟩
end

section
variable {K : PySem.W.Frag} {c : Ctx} {F F' F1 H H' : Hp} {σ : L2.St} {env env' : Env} {v : V} {d : D} {a : Addr}
theorem takeAll_ok : ∀ {vs : List V} {rs : List Rs} {F : Hp} {env env' : Env} {ds : List D}, G K c F H σ env → RsA K c F H σ env vs rs → takeAll rs env = some (ds, env') → ∃ F1, G K c F1 H σ env' ∧ Same F F1 ∧ RpA K F1 vs ds
  | [], [], F, _, _, _, g, _, h => by cases h; exact ⟨F, g, Same.refl F, .nil⟩
  | v :: vs, r :: rs, F, env, env', ds, g, ra, h => by
    simp only [takeAll, bind, Option.bind_eq_some_iff, pure, Option.some.injEq] at h
    obtain ⟨⟨d, e1⟩, h1, ⟨ds', e2⟩, h2, e⟩ := h
    cases e
    obtain ⟨F1, g1, s1, r1⟩ := take_ok g ra.1.1 h1
    obtain ⟨F2, g2, s2, r2⟩ := takeAll_ok g1 (ra.2.keep s1) h2
    exact ⟨F2, g2, s1.trans s2, .cons (r1.mono s2) r2⟩
  | [], _ :: _, _, _, _, _, _, h, _ => h.elim
  | _ :: _, [], _, _, _, _, _, h, _ => h.elim
theorem take_at {r : Rs} {i : Nat} {s : Slot} (h : take r env = some (d, env')) (e : env'[i]? = some s) (m : s.mine = true) : env[i]? = some s := by
  cases r with
  | shr _ => cases h; exact e
  | new _ => cases h; exact e
  | cst d' =>
    simp only [take] at h
    split at h
    · cases h; exact e
    · cases h
  | var j =>
    simp only [take] at h
    split at h
    · cases h; exact e
    · cases h
      by_cases hj : j = i
      · subst hj
        have hl := (List.getElem?_eq_some_iff.mp e).1
        rw [List.length_set] at hl
        rw [List.getElem?_set_self hl] at e
        cases e; cases m
      · rwa [List.getElem?_set_ne hj] at e
    · cases h
theorem takeAll_at : ∀ {rs : List Rs} {env env' : Env} {ds : List D} {i : Nat} {s : Slot}, takeAll rs env = some (ds, env') → env'[i]? = some s → s.mine = true → env[i]? = some s
  | [], _, _, _, _, _, h, e, _ => by cases h; exact e
  | r :: rs, env, env', ds, i, s, h, e, m => by
    simp only [takeAll, bind, Option.bind_eq_some_iff, pure, Option.some.injEq] at h
    obtain ⟨⟨d, e1⟩, h1, ⟨ds', e2⟩, h2, e'⟩ := h
    cases e'
    exact take_at h1 (takeAll_at h2 e m) m

/-- the frozen of F, and the tuples that came -/
def tupsOf (F F3 : Hp) : Hp := fun b => match F b with
  | some o => some o
  | none => match F3 b with
    | some (.tup xs) => some (.tup xs)
    | _ => none
theorem tupsOf_at {F F3 : Hp} {b : Addr} {u : HO} (h : tupsOf F F3 b = some u) : F b = some u ∨ (F b = none ∧ F3 b = some u ∧ ∃ xs, u = .tup xs) := by
  unfold tupsOf at h
  split at h
  · rename_i o e; cases h; exact .inl e
  · rename_i e
    split at h
    · rename_i xs e3; cases h; exact .inr ⟨e, e3, xs, rfl⟩
    · cases h
theorem tupsOf_same {F F3 : Hp} (s : Same F F3) : Same F (tupsOf F F3) ∧ Same (tupsOf F F3) F3 :=
  ⟨fun b u e => by unfold tupsOf; rw [e], fun b u e => by
    rcases tupsOf_at e with z | ⟨_, z, _⟩
    · exact s b u z
    · exact z⟩
theorem tupsOf_tf {F F3 H : Hp} (s : Same F F3) (tf : Tf F3 H) : Tf (tupsOf F F3) H := fun b xs h => by
  have h3 := tf b xs h
  unfold tupsOf
  cases q : F b with
  | some o => have z := s b o q; rw [h3] at z; cases z; rfl
  | none => rw [h3]
theorem tupsOf_frn {F F2 F3 H : Hp} (tf : Tf F H) (sub : Sub F2 H) (s : Same F2 F3) (frn : ∀ b, F3 b ≠ none → F2 b ≠ none ∨ H b = none) : ∀ b, tupsOf F F3 b ≠ none → F b ≠ none ∨ H b = none := fun b e => by
  cases q : tupsOf F F3 b with
  | none => exact absurd q e
  | some u =>
    rcases tupsOf_at q with z | ⟨_, z, xs, hu⟩
    · exact .inl (by rw [z]; simp)
    · subst hu
      rcases frn b (by rw [z]; simp) with y | y
      · cases q2 : F2 b with
        | none => exact absurd q2 y
        | some w =>
          have := s b w q2
          rw [z] at this
          cases this
          exact .inl (by rw [tf b xs (sub.tup q2)]; simp)
      · exact .inr y
/-- behind something that changed what is at the addresses wr alone -/
theorem G.after (g : G K c F H σ env) (wr : Addr → Prop) (hs : Same F F') (sub : Sub F' H') (frn : ∀ b, F' b ≠ none → F b ≠ none ∨ H b = none) (old : ∀ b o, H b = some o → ¬ wr b → H' b = some o) (dom : ∀ b, H b ≠ none → H' b ≠ none) (hfz : ∀ a ob u, H' a = some (.frz ob u) → F' a = some u → H a = some (.frz ob u)) (htf : Tf F' H')
    (hwr : ∀ b, wr b → ∃ (i : Nat) (sl : Slot), env[i]? = some sl ∧ sl.mine = true ∧ σ[i]? = some (some (.ref b)))
    (len : env'.length = env.length) (hsl : ∀ (i : Nat) (sl : Slot) (o : Option V), env'[i]? = some sl → σ[i]? = some o → (env[i]? = some sl ∧ (∀ b, o = some (.ref b) → sl.mine = true → ¬ wr b)) ∨ (SlotOk K c F' H' o sl))
    (hm : ∀ (i : Nat) (sl : Slot), env'[i]? = some sl → sl.mine = true → ∃ t : Slot, env[i]? = some t ∧ t.mine = true) (hlk : ∀ (i : Nat) (d : D), env'[i]? = some (.lk d) ↔ env[i]? = some (.lk d)) : G K c F' H' σ env' := by
  have nF : ∀ b o, F b = none → H b = some o → F' b = none := fun b o h1 h2 => by
    cases q : F' b with
    | none => rfl
    | some u =>
      rcases frn b (by rw [q]; simp) with z | z
      · exact absurd h1 z
      · rw [h2] at z; cases z
  have nwr : ∀ b, c.H0 b ≠ none → (∀ q, c.w ≠ some (b, q)) → ¬ wr b := fun b h1 h2 h3 => by
    obtain ⟨i, sl, e1, e2, e3⟩ := hwr b h3
    obtain ⟨a, d, ea, _, _, _, q⟩ := g.mineAt e1 e2 e3
    cases ea
    rcases q with q | ⟨q, hq⟩
    · exact h1 q
    · exact h2 _ hq
  have ntmp : ∀ b o, c.tmp b = some o → ¬ wr b := fun b o h1 h3 => by
    obtain ⟨i, sl, e1, e2, e3⟩ := hwr b h3
    exact (g.tmp b o h1).2.2 i sl e1 e2 e3
  have npin : ∀ b, F b ≠ none → ¬ wr b := fun b h1 h3 => by
    obtain ⟨i, sl, e1, e2, e3⟩ := hwr b h3
    obtain ⟨a, d, ea, hF, _⟩ := g.mineAt e1 e2 e3
    cases ea
    exact h1 hF
  refine ⟨sub, by rw [len]; exact g.len, fun i sl o es ev => ?_, fun i j s t v hij e1 e2 m1 m2 => ?_, fun b o e n => old b o (g.old b o e n) (nwr b (by rw [e]; simp) n), fun b u e => hs b u (g.fr0 b u e), fun b e => ?_, fun b e => dom b (g.dom b e), fun b q e => g.ioh b q e, fun b o e => ?_, fun b o e => ?_, fun i d es => ?_, fun i b e => ?_, fun b ob u h1 h2 => ?_, htf⟩
  · rcases hsl i sl o es ev with ⟨e0, n⟩ | h
    · have q := g.slot i sl o e0 ev
      cases sl with
      | emp => trivial
      | lk d => trivial
      | frz d => obtain ⟨v, e, r⟩ := q; exact ⟨v, e, r.mono hs⟩
      | own d =>
        obtain ⟨b, e1, e2, e3, ob⟩ := q
        obtain ⟨u, eu, _⟩ := ob.there
        have eh : H' b = H b := by rw [eu]; exact old b u eu (n b e1 rfl)
        exact ⟨b, e1, nF b u e2 eu, e3, (ob.mono hs).at eh⟩
      | io d =>
        obtain ⟨b, e1, e2, io⟩ := q
        obtain ⟨u, eu, _⟩ := io.ob.there
        have eh : H' b = H b := by rw [eu]; exact old b u eu (n b e1 rfl)
        exact ⟨b, e1, nF b u e2 eu, (io.mono hs).at eh⟩
    · exact h
  · obtain ⟨s', e1', m1'⟩ := hm i s e1 m1
    obtain ⟨t', e2', m2'⟩ := hm j t e2 m2
    exact g.dist i j s' t' v hij e1' e2' m1' m2'
  · rcases frn b e with z | z
    · exact g.frn b z
    · refine .inr ?_
      cases q : c.H0 b with
      | none => rfl
      | some u => exact absurd z (g.dom b (by rw [q]; simp))
  · obtain ⟨h1, h2, h3⟩ := g.tmp b o e
    refine ⟨old b o h1 (ntmp b o e), nF b o h2 h1, fun i s es m => ?_⟩
    obtain ⟨s', es', m'⟩ := hm i s es m
    exact h3 i s' es' m'
  · obtain ⟨h1, h2⟩ := g.pin b o e
    refine ⟨old b o h1 (npin b h2), fun z => h2 ?_⟩
    cases q : F b with
    | none => rfl
    | some u => rw [hs b u q] at z; cases z
  · obtain ⟨b, o, h1, h2, h3, h4, h5⟩ := g.lk i d ((hlk i d).mp es)
    exact ⟨b, o, h1, h2, h3, h4.mono hs, h5⟩
  · obtain ⟨h1, d, h2⟩ := g.lkc i b e
    exact ⟨h1, d, (hlk i d).mpr h2⟩
  · have h3 := hfz b ob u h1 h2
    refine g.fz b ob u h3 ?_
    rcases frn b (by rw [h2]; simp) with z | z
    · cases q : F b with
      | none => exact absurd q z
      | some w => have := hs b w q; rw [h2] at this; cases this; rfl
    · rw [h3] at z; cases z

theorem Rp.any (h : Rp K F v d) (e : scalD d = true) : Rp K F' v d := by
  cases h with
  | non => exact .non
  | bl b => exact .bl b
  | int i => exact .int i
  | str x => exact .str x
  | lst _ _ => cases e
  | tup _ _ => cases e
  | dK _ _ => cases e
  | dT _ _ _ => cases e
theorem Rp.nref (h : Rp K F v d) (e : isRef v = false) : Rp K F' v d := by
  cases h with
  | non => exact .non
  | bl b => exact .bl b
  | int i => exact .int i
  | str x => exact .str x
  | lst _ _ => cases e
  | tup _ _ => cases e
  | dK _ _ => cases e
  | dT _ _ _ => cases e
theorem RpA.any : ∀ {vs : List V} {ds : List D}, RpA K F vs ds → ds.all scalD = true → RpA K F' vs ds
  | _, _, .nil, _ => .nil
  | _, _, .cons a b, h => by
    rw [List.all_cons, Bool.and_eq_true] at h
    exact .cons (a.any h.1) (b.any h.2)
theorem RpK.any : ∀ {vs : List (Key × V)} {ds : List (D × D)}, RpK K F vs ds → (ds.all fun kv => scalD kv.2) = true → RpK K F' vs ds
  | _, _, .nil, _ => .nil
  | _, _, .cons a b, h => by
    rw [List.all_cons, Bool.and_eq_true] at h
    exact .cons (a.any h.1) (b.any h.2)
theorem RpT.any : ∀ {vs : List (List Key × V)} {ds : List (D × D)}, RpT K F vs ds → (ds.all fun kv => scalD kv.2) = true → RpT K F' vs ds
  | _, _, .nil, _ => .nil
  | _, _, .cons a b, h => by
    rw [List.all_cons, Bool.and_eq_true] at h
    exact .cons (a.any h.1) (b.any h.2)
theorem Ob.any (h : Ob K F H a d) (e : flatD d = true) : Ob K F' H a d := by
  cases h with
  | lst e' r => exact .lst e' (r.any e)
  | dK e' r => exact .dK e' (r.any e)
  | dT n e' r => exact .dT n e' (r.any e)
theorem EndF.none_of {F F' H H' : Hp} {io : Option Addr} (e : EndF F H F' H' io) {b : Addr} (h : F' b = none) : F b = none := by
  cases q : F b with
  | none => rfl
  | some u => rw [e.same b u q] at h; cases h
/-- what came back -/
theorem RetOk.rs (g : G K c F H σ env) {F2 H2 : Hp} {σ2 : L2.St} {r : Rs} (h : RetOk K F2 H2 H v r) (hm : ∀ (i : Nat) (sl : Slot), env'[i]? = some sl → sl.mine = true → ∃ t : Slot, env[i]? = some t ∧ t.mine = true) : RsOk K c F2 H2 σ env' v r := by
  cases r with
  | shr d => exact h
  | cst d => exact h
  | var i => exact h.elim
  | new d =>
    obtain ⟨b, h1, h2, h3, h4⟩ := h
    obtain ⟨_, n2, n3⟩ := g.new h3
    refine ⟨b, h1, h2, n2, h4, fun i s es m => ?_⟩
    obtain ⟨t, et, mt⟩ := hm i s es m
    subst h1
    exact n3 i t et mt
theorem RetOk.fit {F2 H2 H0 : Hp} {r : Rs} (h : RetOk K F2 H2 H0 v r) (e : fitR r = true) (n : ∀ b, F2 b = none → F b = none) : RetOk K F H2 H0 v r := by
  cases r with
  | shr d => exact Rp.any h e
  | cst d => exact h
  | var i => exact h.elim
  | new d =>
    obtain ⟨b, h1, h2, h3, h4⟩ := h
    exact ⟨b, h1, n b h2, h3, h4.any e⟩
end
section
variable {X : Cx} {k j : Nat} {x : Str} {f : Fd} {p pos : Pos} {e : Expr} {es : List Expr} {fs : AR}
section
variable {K : PySem.W.Frag} {c : Ctx} {F H : Hp} {σ : L2.St} {env : Env}
/-- one object more is frozen, for a call's time -/
theorem frzOne {F1 : Hp} {a : Addr} {u : HO} (sub : Sub F1 H) (tf : Tf F1 H) (hu : H a = some u ∨ (Mut (some u) ∧ ∃ ob, H a = some (.frz ob u))) (nt : ∀ xs, u ≠ .tup xs) : ∃ F2, Same F1 F2 ∧ Sub F2 H ∧ Tf F2 H ∧ (F2 a = some u ∨ ∃ w, F1 a = some w ∧ F2 = F1) := by
  cases q : F1 a with
  | some w => exact ⟨F1, Same.refl F1, sub, tf, .inr ⟨w, rfl, rfl⟩⟩
  | none =>
    refine ⟨upd F1 a u, Same.upd q, fun b o e => ?_, fun b xs h => Same.upd q b _ (tf b xs h), .inl upd_same⟩
    by_cases hb : b = a
    · subst hb; rw [upd_same] at e; cases e; exact hu
    · rw [upd_ne hb] at e; exact sub b o e
theorem rd_of {F1 : Hp} {a : Addr} {w : HO} (sub : Sub F1 H) (e : F1 a = some w) {u : HO} (hu : H a = some u) (nf : ∀ ob v, u ≠ .frz ob v) : w = u := by
  rcases sub a w e with z | ⟨_, ob, z⟩
  · rw [hu] at z; cases z; rfl
  · rw [hu] at z; exact absurd (Option.some.inj z) (nf ob w)
theorem takeL_ok {v : V} {r : Rs} {d : D} {F1 : Hp} (g : G K c F H σ env) (s1 : Same F F1) (sub : Sub F1 H) (tf : Tf F1 H) (h : RsOk K c F H σ env v r) (e : takeL r env = some d) : ∃ F2, Same F1 F2 ∧ Sub F2 H ∧ Tf F2 H ∧ Rp K F2 v d := by
  cases r with
  | shr d' => cases e; exact ⟨F1, Same.refl F1, sub, tf, Rp.mono s1 h⟩
  | new d' => cases e
  | cst d' =>
    simp only [takeL] at e
    split at e
    · rename_i hk; cases e; exact ⟨F1, Same.refl F1, sub, tf, Cst.rp hk h⟩
    · cases e
  | var i =>
    have ev : σ[i]? = some (some v) := h
    simp only [takeL] at e
    split at e
    · rename_i d' es
      cases e
      obtain ⟨v', e1, r⟩ := g.slot i _ _ es ev
      cases e1
      exact ⟨F1, Same.refl F1, sub, tf, r.mono s1⟩
    · rename_i d' es
      cases e
      obtain ⟨a, e1, hF, _, ob⟩ := g.slot i _ _ es ev
      cases e1
      cases ob with
      | lst e' r =>
        obtain ⟨F2, s2, sub2, tf2, q⟩ := frzOne sub tf (.inl e') (fun xs z => by cases z)
        refine ⟨F2, s2, sub2, tf2, .lst (.inl (.inl ?_)) (r.mono (s1.trans s2))⟩
        rcases q with q | ⟨w, q1, q2⟩
        · exact q
        · subst q2; rw [q1, rd_of sub q1 e' fun _ _ z => by cases z]
      | dK e' r =>
        obtain ⟨F2, s2, sub2, tf2, q⟩ := frzOne sub tf (.inl e') (fun xs z => by cases z)
        refine ⟨F2, s2, sub2, tf2, .dK (.inl ?_) (r.mono (s1.trans s2))⟩
        rcases q with q | ⟨w, q1, q2⟩
        · exact q
        · subst q2; rw [q1, rd_of sub q1 e' fun _ _ z => by cases z]
      | dT n e' r =>
        obtain ⟨F2, s2, sub2, tf2, q⟩ := frzOne sub tf (.inl e') (fun xs z => by cases z)
        refine ⟨F2, s2, sub2, tf2, .dT n (.inl ?_) (r.mono (s1.trans s2))⟩
        rcases q with q | ⟨w, q1, q2⟩
        · exact q
        · subst q2; rw [q1, rd_of sub q1 e' fun _ _ z => by cases z]
    · rename_i d' es
      cases e
      obtain ⟨a, o, k1, k2, k3, k4, k5⟩ := g.lk i _ es
      rw [ev] at k2; cases k2
      have ho := (g.tmp a o k3).1
      cases k4 with
      | lst r =>
        obtain ⟨F2, s2, sub2, tf2, q⟩ := frzOne sub tf (.inl ho) (fun xs z => by cases z)
        refine ⟨F2, s2, sub2, tf2, .lst (.inl (.inl ?_)) (r.mono (s1.trans s2))⟩
        rcases q with q | ⟨w, q1, q2⟩
        · exact q
        · subst q2; rw [q1, rd_of sub q1 ho fun _ _ z => by cases z]
      | dK r =>
        rename_i ob kw dd
        obtain ⟨F2, s2, sub2, tf2, q⟩ := frzOne (u := .dK kw) sub tf (.inr ⟨trivial, ob, ho⟩) (fun xs z => by cases z)
        refine ⟨F2, s2, sub2, tf2, .dK ?_ (r.mono (s1.trans s2))⟩
        rcases q with q | ⟨w, q1, q2⟩
        · exact .inl q
        · subst q2
          rcases sub a w q1 with z | ⟨_, ob', z⟩
          · rw [ho] at z; cases z; exact .inr ⟨ob, q1⟩
          · rw [ho] at z; cases z; exact .inl q1
    · cases e
theorem takeAllL_ok (g : G K c F H σ env) : ∀ {vs : List V} {rs : List Rs} {F1 : Hp} {ds : List D}, Same F F1 → Sub F1 H → Tf F1 H → RsA K c F H σ env vs rs → takeAllL rs env = some ds → ∃ F2, Same F1 F2 ∧ Sub F2 H ∧ Tf F2 H ∧ RpA K F2 vs ds
  | [], [], F1, _, _, s, t, _, h => by cases h; exact ⟨F1, Same.refl F1, s, t, .nil⟩
  | v :: vs, r :: rs, F1, ds, s1, s, t, ra, h => by
    simp only [takeAllL, bind, Option.bind_eq_some_iff, pure, Option.some.injEq] at h
    obtain ⟨d, h1, ds', h2, e⟩ := h
    subst e
    obtain ⟨F2, s2, sub2, tf2, r2⟩ := takeL_ok g s1 s t ra.1.1 h1
    obtain ⟨F3, s3, sub3, tf3, r3⟩ := takeAllL_ok g (s1.trans s2) sub2 tf2 ra.2 h2
    exact ⟨F3, s2.trans s3, sub3, tf3, .cons (r2.mono s3) r3⟩
  | [], _ :: _, _, _, _, _, _, h, _ => h.elim
  | _ :: _, [], _, _, _, _, _, h, _ => h.elim
end
theorem callF_ok {K : PySem.W.Frag} {σ : L2.St} {H : Hp} {Q : VK} {fs : AR} {f : Fd} {E0 : XK} (w : tE K (callF f fs) σ H Q) : tCall (spF K f) [] E0 (tAR K fs) σ H Q := by
  obtain ⟨c, F, env, res, env', g, hf, q⟩ := w
  simp only [callF, bind, Option.bind_eq_some_iff] at hf
  obtain ⟨⟨rs, e1⟩, h1, hf⟩ := hf
  refine ⟨c, F, env, rs, e1, g, h1, fun vs F1 H1 g1 s1 ra => ?_⟩
  -- what comes back fits: all is as before
  have back : ∀ {F2 : Hp} {r : Rs}, Same F1 F2 → Sub F2 H1 → fitR r = true → (∀ v F' H', G K c F' H' σ e1 → Same F F' → RsOk K c F' H' σ e1 v r → Q v H') → ∀ v F3 H3, EndF F2 H1 F3 H3 none → RetOk K F3 H3 H1 v r → Q v H3 := fun {F2 r} s2 sub2 hfit q v F3 H3 en ro => by
    have t3 := tupsOf_same (s2.trans en.same)
    have g3 : G K c (tupsOf F1 F3) H3 σ e1 := g1.after (fun _ => False) t3.1 (Sub.trans t3.2 en.sub) (tupsOf_frn g1.tf sub2 en.same en.frn) (fun b o e _ => en.old b o e (fun z => by cases z)) en.dom (fun a ob u h1 h2 => en.fz a ob u h1 (t3.2 a u h2)) (tupsOf_tf (s2.trans en.same) en.tf) (fun b z => z.elim) rfl (fun i sl o h _ => .inl ⟨h, fun _ _ _ z => z⟩) (fun i sl h m => ⟨sl, h, m⟩) fun i d => Iff.rfl
    exact q v _ H3 g3 (s1.trans t3.1) ((ro.fit hfit fun b z => by
      cases q : tupsOf F1 F3 b with
      | none => rfl
      | some u => rw [t3.2 b u q] at z; cases z).rs g1 (σ2 := σ) fun i sl h m => ⟨sl, h, m⟩)
  show spF K f (vs ++ []) H1 Q E0
  rw [List.append_nil]
  dsimp only at hf
  split at hf
  · rename_i ds e2 h2
    simp only [Option.bind_eq_some_iff, pure, Option.some.injEq] at hf
    obtain ⟨⟨r, w⟩, h3, e⟩ := hf
    cases e
    obtain ⟨F2, g2, s2, r2⟩ := takeAll_ok g1 ra h2
    refine ⟨F2, ds, r, w, g2.sub, g2.tf, r2, h3, fun v F3 H3 en ro => ?_⟩
    cases hfit : fitR r with
    | true =>
      rw [hfit] at q
      exact back s2 g2.sub hfit q v F3 H3 en ro
    | false =>
      rw [hfit] at q
      have g3 : G K c F3 H3 σ e2 := g2.after (fun _ => False) en.same en.sub en.frn (fun b o e _ => en.old b o e (fun z => by cases z)) en.dom en.fz en.tf (fun b z => z.elim) rfl (fun i sl o h _ => .inl ⟨h, fun _ _ _ z => z⟩) (fun i sl h m => ⟨sl, h, m⟩) fun i d => Iff.rfl
      exact q v F3 H3 g3 ((s1.trans s2).trans en.same) (ro.rs g2 (σ2 := σ) fun i sl h m => ⟨sl, h, m⟩)
  · simp only [Option.bind_eq_some_iff] at hf
    obtain ⟨ds, h2, ⟨r, w⟩, h3, hf⟩ := hf
    dsimp only at hf
    split at hf
    · rename_i hfit
      cases hf
      obtain ⟨F2, s2, sub2, tf2, r2⟩ := takeAllL_ok g1 (Same.refl F1) g1.sub g1.tf ra h2
      exact ⟨F2, ds, _, w, sub2, tf2, r2, h3, fun v F3 H3 en ro => back s2 sub2 hfit q v F3 H3 en ro⟩
    · cases hf
theorem lentOf_at {e : Env} {i : Nat} {d0 : List D} (h : lentOf e i = some d0) : e[i]? = some (.own (.list d0)) ∨ e[i]? = some (.io (.list d0)) := by
  unfold lentOf at h
  split at h
  · rename_i q; cases h; exact .inl q
  · rename_i q; cases h; exact .inr q
  · cases h
/-- the lent list behind: the slot told anew -/
theorem G.lent {K : PySem.W.Frag} {c : Ctx} {F F' F2 H H' : Hp} {σ : L2.St} {env env' : Env} {i : Nat} {a : Addr} {d0 w : List D} {xs : List V} (g : G K c F H σ env) (es : env[i]? = some (.own (.list d0)) ∨ env[i]? = some (.io (.list d0))) (ev : σ[i]? = some (some (.ref a)))
    (ha : H a = some (.lst xs)) (rx : RpA K F xs d0) (hs : Same F F') (sub : Sub F' H') (frn : ∀ b, F' b ≠ none → F b ≠ none ∨ H b = none) (old : ∀ b o, H b = some o → some a ≠ some b → H' b = some o) (dom : ∀ b, H b ≠ none → H' b ≠ none) (hfz : ∀ a ob u, H' a = some (.frz ob u) → F' a = some u → H a = some (.frz ob u)) (htf : Tf F' H')
    (hF' : F' a = none) (hn : ∃ xs', H' a = some (.lst xs') ∧ RpA K F' xs' w ∧ ∀ p ∈ xs'.zip w, isRef p.1 = false ∨ p ∈ xs.zip d0) (hset : setLent env i w = some env') : G K c F' H' σ env' := by
  obtain ⟨xs', h1, h2, h3⟩ := hn
  have hi : i < env.length := by rcases es with e | e <;> exact (List.getElem?_eq_some_iff.mp e).1
  have go : ∀ sl : Slot, env' = env.set i sl → sl.mine = true → SlotOk K c F' H' (some (.ref a)) sl → G K c F' H' σ env' := fun sl he hmine hok => by
    subst he
    have hold : ∃ t : Slot, env[i]? = some t ∧ t.mine = true := by
      rcases es with e | e
      · exact ⟨_, e, rfl⟩
      · exact ⟨_, e, rfl⟩
    refine g.after (fun b => b = a) hs sub frn (fun b o e n => old b o e fun z => n (Option.some.inj z).symm) dom hfz htf (fun b z => ?_) (by rw [List.length_set]) (fun j sl' o e1 e2 => ?_) (fun j sl' e1 m => ?_) fun j d => ?_
    · subst z
      obtain ⟨t, et, mt⟩ := hold
      exact ⟨i, t, et, mt, ev⟩
    · by_cases hj : j = i
      · subst hj
        rw [List.getElem?_set_self hi] at e1
        cases e1
        rw [ev] at e2
        cases e2
        exact .inr hok
      · rw [List.getElem?_set_ne (Ne.symm hj)] at e1
        refine .inl ⟨e1, fun b eb mb z => ?_⟩
        subst z
        subst eb
        obtain ⟨t, et, mt⟩ := hold
        exact g.dist i j t sl' _ (Ne.symm hj) et e1 mt mb ev e2
    · by_cases hj : j = i
      · subst hj; exact hold
      · rw [List.getElem?_set_ne (Ne.symm hj)] at e1
        exact ⟨sl', e1, m⟩
    · by_cases hj : j = i
      · subst hj
        rw [List.getElem?_set_self hi]
        refine ⟨fun z => ?_, fun z => ?_⟩
        · cases z; cases hmine
        · rcases es with e | e <;> (rw [e] at z; cases z)
      · rw [List.getElem?_set_ne (Ne.symm hj)]
  rcases es with e | e
  · unfold setLent at hset
    rw [e] at hset
    cases hset
    obtain ⟨b, eb, _, h0, _⟩ := g.slot i _ _ e ev
    cases eb
    exact go _ rfl rfl ⟨a, rfl, hF', h0, .lst h1 h2⟩
  · unfold setLent at hset
    rw [e] at hset
    cases hset
    obtain ⟨b, eb, _, ys, es, ys0, es0, q1, q2, q3, q4, q5⟩ := g.slot i _ _ e ev
    cases eb
    cases q1
    rw [ha] at q2
    cases q2
    refine go _ rfl rfl ⟨a, rfl, hF', xs', w, ys0, es0, rfl, h1, h2, q4, fun p hp => ?_⟩
    rcases h3 p hp with z | z
    · exact .inl z
    · exact q5 p z
theorem zip_rp {K : PySem.W.Frag} {F : Hp} : ∀ {xs : List V} {ds : List D} {v : V} {d : D}, RpA K F xs ds → (v, d) ∈ xs.zip ds → Rp K F v d
  | _, _, _, _, .nil, h => by simp at h
  | _, _, _, _, .cons r t, h => by
    rw [List.zip_cons_cons, List.mem_cons] at h
    rcases h with h | h
    · cases h; exact r
    · exact zip_rp t h
theorem back_rp {K : PySem.W.Frag} {F F' : Hp} {xs0 : List V} {ds0 : List D} (r0 : RpA K F xs0 ds0) : ∀ {xs : List V} {w : List D}, RpA K F' xs w → (∀ p ∈ xs.zip w, isRef p.1 = false ∨ p ∈ xs0.zip ds0) → RpA K F xs w
  | _, _, .nil, _ => .nil
  | _, _, .cons (v := v) (d := d) r t, h => by
    refine .cons ?_ (back_rp r0 t fun p hp => h p (by rw [List.zip_cons_cons]; exact List.mem_cons_of_mem _ hp))
    rcases h (v, d) (by rw [List.zip_cons_cons]; exact List.mem_cons_self) with z | z
    · exact r.nref z
    · exact zip_rp r0 z
theorem setLent_mine {e e' : Env} {i : Nat} {w : List D} (h : setLent e i w = some e') : ∀ (j : Nat) (sl : Slot), e'[j]? = some sl → sl.mine = true → ∃ t : Slot, e[j]? = some t ∧ t.mine = true := fun j sl ej m => by
  unfold setLent at h
  split at h
  · rename_i d q
    cases h
    by_cases hj : j = i
    · subst hj; exact ⟨_, q, rfl⟩
    · rw [List.getElem?_set_ne (Ne.symm hj)] at ej; exact ⟨_, ej, m⟩
  · rename_i d q
    cases h
    by_cases hj : j = i
    · subst hj; exact ⟨_, q, rfl⟩
    · rw [List.getElem?_set_ne (Ne.symm hj)] at ej; exact ⟨_, ej, m⟩
  · cases h
theorem callW_ok {K : PySem.W.Frag} {σ : L2.St} {H : Hp} {Q : VK} {fs : AR} {f : Fd} {E0 : XK} (w : tE K (callW f fs) σ H Q) : tCall (spW K f) [] E0 (tAR K fs) σ H Q := by
  obtain ⟨c, F, env, res, env', g, hf, q⟩ := w
  simp only [callW, bind, Option.bind_eq_some_iff] at hf
  obtain ⟨⟨rs, e1⟩, h1, hf⟩ := hf
  dsimp only at hf
  split at hf
  · rename_i i rest
    simp only [Option.bind_eq_some_iff, pure, Option.some.injEq] at hf
    obtain ⟨⟨ds, e2⟩, h2, d0, h3, ⟨r, w⟩, h4, e3, h5, e⟩ := hf
    cases e
    refine ⟨c, F, env, _, e1, g, h1, fun vs F1 H1 g1 s1 ra => ?_⟩
    cases vs with
    | nil => exact ra.elim
    | cons v vs =>
    rw [List.append_nil]
    obtain ⟨F2, g2, s2, r2⟩ := takeAll_ok g1 ra.2 h2
    have ev : σ[i]? = some (some v) := ra.1.1
    have es2 := lentOf_at h3
    have es1 : e1[i]? = some (.own (.list d0)) ∨ e1[i]? = some (.io (.list d0)) := es2.imp (fun z => takeAll_at h2 z rfl) fun z => takeAll_at h2 z rfl
    have inf : ∀ {F : Hp} {en : Env}, G K c F H1 σ en → (en[i]? = some (.own (.list d0)) ∨ en[i]? = some (.io (.list d0))) → ∃ a xs, v = .ref a ∧ F a = none ∧ H1 a = some (.lst xs) ∧ RpA K F xs d0 := fun {F en} gg ee => by
      rcases ee with z | z
      · obtain ⟨a, d, h1, h2, h3, ob, _⟩ := gg.mineAt z rfl ev
        cases h3
        cases ob with | lst e r => exact ⟨a, _, h1, h2, e, r⟩
      · obtain ⟨a, d, h1, h2, h3, ob, _⟩ := gg.mineAt z rfl ev
        cases h3
        cases ob with | lst e r => exact ⟨a, _, h1, h2, e, r⟩
    obtain ⟨a, xs, rfl, hF2, ha, rx2⟩ := inf g2 es2
    obtain ⟨_, _, ea, hF1, ha', rx1⟩ := inf g1 es1
    cases ea
    rw [ha] at ha'
    cases ha'
    refine ⟨F2, a, xs, d0, vs, ds, r, w, rfl, g2.sub, g2.tf, hF2, ha, rx2, r2, h4, fun v F3 H3 en ro hF3 io => ?_⟩
    obtain ⟨xs', i1, i2, i3⟩ := io
    cases hfit : fitR r with
    | true =>
      rw [hfit, if_pos rfl] at h5
      have t3 := tupsOf_same (s2.trans en.same)
      have g3 : G K c (tupsOf F1 F3) H3 σ env' := g1.lent (F2 := F1) es1 ev ha rx1 t3.1 (Sub.trans t3.2 en.sub) (tupsOf_frn g1.tf g2.sub en.same en.frn) (fun b o e n => en.old b o e n) en.dom (fun a ob u h1 h2 => en.fz a ob u h1 (t3.2 a u h2)) (tupsOf_tf (s2.trans en.same) en.tf) (by
        cases q : tupsOf F1 F3 a with
        | none => rfl
        | some u => rw [t3.2 a u q] at hF3; cases hF3) ⟨xs', i1, (back_rp rx1 i2 i3).mono t3.1, i3⟩ h5
      exact q v _ H3 g3 (s1.trans t3.1) ((ro.fit hfit fun b z => by
        cases q : tupsOf F1 F3 b with
        | none => rfl
        | some u => rw [t3.2 b u q] at z; cases z).rs g1 (σ2 := σ) (setLent_mine h5))
    | false =>
      rw [hfit, if_neg Bool.false_ne_true] at h5
      have g3 : G K c F3 H3 σ env' := g2.lent (F2 := F1) es2 ev ha rx2 en.same en.sub en.frn (fun b o e n => en.old b o e n) en.dom en.fz en.tf hF3 ⟨xs', i1, i2, i3⟩ h5
      exact q v F3 H3 g3 ((s1.trans s2).trans en.same) (ro.rs g2 (σ2 := σ) (setLent_mine h5))
  · cases hf
/-- what can be called by its name -/
abbrev CalF (X : Cx) (k : Nat) (x : Str) (f : Fd) : Prop := C8.Cal X.prog X.w X.K X.mg X.base k x (spF X.K f) []
abbrev CalW (X : Cx) (k : Nat) (x : Str) (f : Fd) : Prop := C8.Cal X.prog X.w X.K X.mg X.base k x (spW X.K f) []
theorem je_callF (cf : CalF X k x f) (hr : Room j X.A) (hk : k ≤ j) (hg : Gl X x) (ha : JAR X (e :: es) fs)
    (hdb : (x == ("__debug__" : Str)) = false := by decide) (he : starEach (e :: es) X.env = (false, eval e X.env) :: starEach es X.env := by rfl) (hpl : (backTo pos (starEach es X.env)).any (·.1) = false := by rfl) :
    JE X (.Call (.Name x p) (e :: es) [] pos) (callF f fs) := (C8.pe_c cf hr hk hg ha hdb he hpl).imp fun _ _ _ w => callF_ok w
theorem je_callW (cf : CalW X k x f) (hr : Room j X.A) (hk : k ≤ j) (hg : Gl X x) (ha : JAR X (e :: es) fs)
    (hdb : (x == ("__debug__" : Str)) = false := by decide) (he : starEach (e :: es) X.env = (false, eval e X.env) :: starEach es X.env := by rfl) (hpl : (backTo pos (starEach es X.env)).any (·.1) = false := by rfl) :
    JE X (.Call (.Name x p) (e :: es) [] pos) (callW f fs) := (C8.pe_c cf hr hk hg ha hdb he hpl).imp fun _ _ _ w => callW_ok w
end
end Ev
set_option Elab.async false
set_option linter.all false
set_option maxRecDepth 100000
set_option maxHeartbeats 1000000
/-! Ev15: lists that change: append, pop, remove, insert, extend, xs[i] = v; index, count. -/
namespace Ev
open PySem PySem.Spec PyProof.Rows L2

section
variable {K : PySem.W.Frag} {c : Ctx} {F H : Hp} {σ : L2.St} {env : Env} {d : D}
theorem slotNt {a : Addr} {o : HO} {sl : Slot} (h : SlotOk K c F (upd H a o) (some (.ref a)) sl) (m : sl.mine = true) : ∀ xs, o ≠ .tup xs := by
  cases sl with
  | emp => cases m
  | frz d => cases m
  | lk d => cases m
  | own d => obtain ⟨b, e1, _, _, ob⟩ := h; cases e1; exact ob.nt
  | io d => obtain ⟨b, e1, _, io⟩ := h; cases e1; exact io.ob.nt
/-- one's own object is written -/
theorem G.write (g : G K c F H σ env) {i : Nat} {a : Addr} {sl sl' : Slot} {o : HO} (es : env[i]? = some sl) (m : sl.mine = true) (ev : σ[i]? = some (some (.ref a))) (m' : sl'.mine = true) (hok : SlotOk K c F (upd H a o) (some (.ref a)) sl') : G K c F (upd H a o) σ (env.set i sl') := by
  have hi : i < env.length := (List.getElem?_eq_some_iff.mp es).1
  obtain ⟨b, d0, eb, hF, _, ob, _⟩ := g.mineAt es m ev
  cases eb
  obtain ⟨u0, eu0, _⟩ := ob.there
  have at_ : ∀ b : Addr, b ≠ a → upd H a o b = H b := fun b h => upd_ne h
  refine g.after (fun b => b = a) (Same.refl F) (fun b u e => ?_) (fun b z => .inl z) (fun b u e n => by rw [at_ b n]; exact e) (fun b z q => ?_) (fun b ob u h1 h2 => by rwa [at_ b (fun z => by subst z; rw [hF] at h2; cases h2)] at h1) (fun b xs h => g.tf b xs (upd_nt (slotNt hok m') h)) (fun b z => by subst z; exact ⟨i, sl, es, m, ev⟩) (by rw [List.length_set]) (fun j s' u e1 e2 => ?_) (fun j s' e1 mm => ?_) fun j d => ?_
  · have hb : b ≠ a := fun z => by subst z; rw [hF] at e; cases e
    rw [at_ b hb]; exact g.sub b u e
  · by_cases hb : b = a
    · subst hb; rw [upd_same] at q; cases q
    · rw [at_ b hb] at q; exact z q
  · by_cases hj : j = i
    · subst hj
      rw [List.getElem?_set_self hi] at e1
      cases e1
      rw [ev] at e2
      cases e2
      exact .inr hok
    · rw [List.getElem?_set_ne (Ne.symm hj)] at e1
      refine .inl ⟨e1, fun b eb mb z => ?_⟩
      subst z
      subst eb
      exact g.dist i j sl s' _ (Ne.symm hj) es e1 m mb ev e2
  · by_cases hj : j = i
    · subst hj; exact ⟨sl, es, m⟩
    · rw [List.getElem?_set_ne (Ne.symm hj)] at e1
      exact ⟨s', e1, mm⟩
  · by_cases hj : j = i
    · subst hj
      rw [List.getElem?_set_self hi, es]
      refine ⟨fun z => ?_, fun z => ?_⟩
      · cases z; cases m'
      · cases z; cases m
    · rw [List.getElem?_set_ne (Ne.symm hj)]
/-- one's own list -/
theorem G.ownL (g : G K c F H σ env) {i : Nat} {v : V} {ds : List D} (es : env[i]? = some (.own (.list ds))) (ev : σ[i]? = some (some v)) : ∃ a xs, v = .ref a ∧ H a = some (.lst xs) ∧ RpA K F xs ds ∧
    ∀ ys es', RpA K F ys es' → G K c F (upd H a (.lst ys)) σ (env.set i (.own (.list es'))) := by
  obtain ⟨a, e1, hF, h0, ob⟩ := g.slot i _ _ es ev
  cases e1
  cases ob with
  | lst e r => exact ⟨a, _, rfl, e, r, fun ys es' r' => g.write es rfl ev rfl ⟨a, rfl, hF, h0, .lst upd_same r'⟩⟩
/-- the lent list: what is no object may be put there -/
theorem zip_set {α β : Type} : ∀ {xs : List α} {ds : List β} {v : α} {d : β} {j : Nat} {p : α × β}, p ∈ (xs.set j v).zip (ds.set j d) → p = (v, d) ∨ p ∈ xs.zip ds
  | [], _, _, _, _, _, h => by simp at h
  | _ :: _, [], _, _, _, _, h => by simp at h
  | x :: xs, d :: ds, v, d', 0, p, h => by
    rw [List.set_cons_zero, List.set_cons_zero, List.zip_cons_cons, List.mem_cons] at h
    rw [List.zip_cons_cons]
    rcases h with h | h
    · exact .inl h
    · exact .inr (List.mem_cons_of_mem _ h)
  | x :: xs, d :: ds, v, d', j + 1, p, h => by
    rw [List.set_cons_succ, List.set_cons_succ, List.zip_cons_cons, List.mem_cons] at h
    rw [List.zip_cons_cons]
    rcases h with h | h
    · exact .inr (by rw [h]; exact List.mem_cons_self)
    · rcases zip_set h with z | z
      · exact .inl z
      · exact .inr (List.mem_cons_of_mem _ z)
theorem Rp.nrefOf {v : V} (h : Rp K F v d) (e : scalD d = true) : isRef v = false := by
  cases h with
  | non => rfl
  | bl b => rfl
  | int i => rfl
  | str x => rfl
  | lst _ _ => cases e
  | tup _ _ => cases e
  | dK _ _ => cases e
  | dT _ _ _ => cases e
theorem G.ioL (g : G K c F H σ env) {i : Nat} {v : V} {ds : List D} (es : env[i]? = some (.io (.list ds))) (ev : σ[i]? = some (some v)) : ∃ a xs, v = .ref a ∧ H a = some (.lst xs) ∧ RpA K F xs ds ∧
    ∀ j u e, Rp K F u e → scalD e = true → G K c F (upd H a (.lst (xs.set j u))) σ (env.set i (.io (.list (ds.set j e)))) := by
  obtain ⟨a, e1, hF, xs, ds', xs0, ds0, q1, q2, q3, q4, q5⟩ := g.slot i _ _ es ev
  cases e1
  cases q1
  refine ⟨a, xs, rfl, q2, q3, fun j u e r hs => g.write es rfl ev rfl ⟨a, rfl, hF, _, _, xs0, ds0, rfl, upd_same, q3.set j r, q4, fun p hp => ?_⟩⟩
  rcases zip_set hp with z | z
  · subst z; exact .inl (r.nrefOf hs)
  · exact q5 p z
end

/-! ### methods of a list of one's own -/
def ownAt (e : Env) (i : Nat) : Option (List D) := match e[i]? with
  | some (.own (.list ds)) => some ds
  | _ => none
theorem ownAt_at {e : Env} {i : Nat} {ds : List D} (h : ownAt e i = some ds) : e[i]? = some (.own (.list ds)) := by
  unfold ownAt at h
  split at h
  · rename_i q; cases h; exact q
  · cases h
/-- o.m(..): the arguments' data, the list → the outcome and the list behind -/
def mOwn (m : List D → List D → Option (Rs × List D)) (fo : E) (fa : AD) : E := fun e => do
  let (ro, e1) ← fo e
  match ro with
  | .var i => do
    let _ ← ownAt e1 i
    let (as, e2) ← fa e1
    let ds ← ownAt e2 i
    let (r, ds') ← m as ds
    match r with
    | .shr d => pure (.shr d, e2.set i (.own (.list ds')))
    | _ => none
  | _ => none
/-- what a method does with the heap -/
def MOwn (X : Cx) (r : V → List V → Hp → VK → Prop) (m : List D → List D → Option (Rs × List D)) : Prop :=
  ∀ (F H : Hp) (a : Addr) (xs : List V) (ds as ds' : List D) (vs : List V) (d : D) (Q : VK), Sub F H → H a = some (.lst xs) → RpA X.K F xs ds → RpA X.K F vs as → m as ds = some (.shr d, ds') →
    (∀ v ys, Rp X.K F v d → RpA X.K F ys ds' → Q v (upd H a (.lst ys))) → r (.ref a) vs H Q
section
variable {X : Cx} {o e : Expr} {es : List Expr} {fo : E} {fa : AD} {name : Str} {apos cpos : Pos} {id : String} {r : V → List V → Hp → VK → Prop} {m : List D → List D → Option (Rs × List D)}
theorem mown_ok {T : TA} (hm : MOwn X r m) (hT : ∀ σ H Q, tAD X.K fa σ H Q → T σ H Q) {σ : L2.St} {H : Hp} {Q : VK} (w : tE X.K (mOwn m fo fa) σ H Q) : tBM X.K "list" r (tE X.K fo) T σ H Q := by
  obtain ⟨c, F, env, res, env', g, hf, q⟩ := w
  simp only [mOwn, bind, Option.bind_eq_some_iff] at hf
  obtain ⟨⟨ro, e1⟩, h1, hf⟩ := hf
  dsimp only at hf
  split at hf
  · rename_i i
    simp only [Option.bind_eq_some_iff] at hf
    obtain ⟨ds1, h2, ⟨as, e2⟩, h3, ds, h4, ⟨rr, ds'⟩, h5, hf⟩ := hf
    dsimp only at h3 h4 h5 hf
    split at hf
    · rename_i d
      cases hf
      refine ⟨c, F, env, _, e1, g, h1, fun v F1 H1 g1 s1 r1 => ?_⟩
      have ev : σ[i]? = some (some v) := r1
      obtain ⟨a, xs, rfl, ha, _, _⟩ := g1.ownL (ownAt_at h2) ev
      refine ⟨.inl ⟨rfl, xs, .inl (.inl ha)⟩, hT _ _ _ ⟨c, F1, e1, as, e2, g1, h3, fun vs F2 H2 g2 s2 r2 => ?_⟩⟩
      obtain ⟨b, ys, eb, hb, rb, wr⟩ := g2.ownL (ownAt_at h4) ev
      cases eb
      exact hm F2 H2 a ys ds as ds' vs d Q g2.sub hb rb r2 h5 fun v zs rv rz => q v F2 _ (wr zs ds' rz) (s1.trans s2) rv
    · cases hf
  · cases hf
theorem je_mown0 (pa : PlainAttrs "list") (slot : PySem.Slot "list" name id) (hty : typeOf (.builtin id) = pure (.type "method_descriptor")) (hr : MtR X id r) (hm : MOwn X r m) (ho : JE X o fo)
    (hbase : attributeBase o name X.env (eval o X.env) = eval o X.env := by rfl) (hline : (apos.endLine == cpos.line) = true := by rfl) : JE X (.Call (.Attribute o name apos) [] [] cpos) (mOwn m fo adNil) :=
  (pe_bm0 pa slot hty hr ho hbase hline).imp fun σ H Q w => mown_ok (T := tNil) hm (fun σ H Q w => by
    obtain ⟨c, F, env, ds, env', g, hf, q⟩ := w
    cases hf
    exact q [] F H g (Same.refl F) .nil) w
theorem je_mown (pa : PlainAttrs "list") (slot : PySem.Slot "list" name id) (hty : typeOf (.builtin id) = pure (.type "method_descriptor")) (hr : MtR X id r) (hm : MOwn X r m) (ho : JE X o fo) (ha : JAD X (e :: es) fa)
    (hbase : attributeBase o name X.env (eval o X.env) = eval o X.env := by rfl)
    (hfew : ((backTo cpos (starEach (e :: es) X.env)).all (fun x => !x.1) && (backToKw cpos (keywordEach [] X.env)).all (fun x => x.1.isSome)
      && decide ((e :: es).length + ([] : List Keyword).length + (if ([] : List Keyword).isEmpty then 0 else 1) < 30)) = true := by rfl)
    (hline : (apos.endLine == cpos.line) = true := by rfl) (hs : starEach (e :: es) X.env = (false, eval e X.env) :: starEach es X.env := by rfl) (hplain : (backTo cpos (starEach es X.env)).any (·.1) = false := by rfl) :
    JE X (.Call (.Attribute o name apos) (e :: es) [] cpos) (mOwn m fo fa) :=
  (pe_bm pa slot hty hr ho ha hbase hfew hline hs hplain).imp fun σ H Q w => mown_ok hm (fun σ H Q w => w) w
end

def mAppend : List D → List D → Option (Rs × List D)
  | [d], ds => if ds.length < sizeLine then some (.shr .none, ds ++ [d]) else none
  | _, _ => none
def mPop : List D → List D → Option (Rs × List D)
  | [], ds => ds.getLast?.map fun d => (.shr d, ds.dropLast)
  | _, _ => none
def mPopAt : List D → List D → Option (Rs × List D)
  | [.int i], ds => if -(2 ^ 63) ≤ i ∧ i < 2 ^ 63 then (match seqIndex? i ds.length with
      | some k => ds[k]?.map fun d => (.shr d, ds.eraseIdx k)
      | none => none) else none
  | _, _ => none
def mRemove : List D → List D → Option (Rs × List D)
  | [d], ds => if inOk d ds then (SeqAt.dataPlace ds d).map fun j => (.shr .none, ds.eraseIdx j) else none
  | _, _ => none
def mInsert : List D → List D → Option (Rs × List D)
  | [.int i, d], ds => if ds.length < sizeLine ∧ 0 ≤ i ∧ i < 2 ^ 63 then some (.shr .none, ds.take i.toNat ++ [d] ++ ds.drop i.toNat) else none
  | _, _ => none
def mExtend : List D → List D → Option (Rs × List D)
  | [.list zs], ds => if ds.length + zs.length ≤ sizeLine then some (.shr .none, ds ++ zs) else none
  | _, _ => none
section
variable {X : Cx}
theorem ow_append : MOwn X rAppend mAppend := fun F H a xs ds as ds' vs d Q s ha ra rv hm q => by
  unfold mAppend at hm
  split at hm
  · split at hm
    · rename_i e hl
      cases hm
      cases rv with | cons r t => cases t; exact ⟨a, xs, _, rfl, rfl, ha, by rw [ra.length]; exact hl, q .non _ .non (ra.append (.cons r .nil))⟩
    · cases hm
  · cases hm
theorem RpA.dropLast {K : PySem.W.Frag} {F : Hp} : ∀ {vs : List V} {ds : List D}, RpA K F vs ds → RpA K F vs.dropLast ds.dropLast
  | _, _, .nil => .nil
  | _, _, .cons _ .nil => .nil
  | _, _, .cons r (.cons r' t) => .cons r (RpA.dropLast (.cons r' t))
theorem ow_pop : MOwn X rPop mPop := fun F H a xs ds as ds' vs d Q s ha ra rv hm q => by
  unfold mPop at hm
  split at hm
  · cases rv
    obtain ⟨y, hy, e⟩ := Option.map_eq_some_iff.mp hm
    cases e
    rw [List.getLast?_eq_getElem?] at hy
    obtain ⟨v, hv, r⟩ := ra.at' hy
    exact ⟨a, xs, v, rfl, rfl, ha, by rw [ra.length]; exact hv, q v _ r ra.dropLast⟩
  · cases hm
theorem ow_popAt : MOwn X rPopAt mPopAt := fun F H a xs ds as ds' vs d Q s ha ra rv hm q => by
  unfold mPopAt at hm
  split at hm
  · split at hm
    · rename_i i hi
      split at hm
      · rename_i k hk
        obtain ⟨y, hy, e⟩ := Option.map_eq_some_iff.mp hm
        cases e
        obtain ⟨v, hv, r⟩ := ra.at' hy
        cases rv with
        | cons r0 t => cases t; cases r0; exact ⟨a, xs, i, k, v, rfl, rfl, ha, hi.1, hi.2, by rw [ra.length]; exact hk, hv, q v _ r (ra.eraseIdx k)⟩
      · cases hm
    · cases hm
  · cases hm
theorem ow_insert : MOwn X (fun x vs H Q => ∃ (l : Addr) (xs : List V) (i : Int) (y : V), x = .ref l ∧ vs = [.int i, y] ∧ H l = some (.lst xs) ∧ xs.length < sizeLine ∧ 0 ≤ i ∧ i < 2 ^ 63 ∧
    Q .non (upd H l (.lst (xs.take i.toNat ++ [y] ++ xs.drop i.toNat)))) mInsert := fun F H a xs ds as ds' vs d Q s ha ra rv hm q => by
  unfold mInsert at hm
  split at hm
  · split at hm
    · rename_i i e hl
      cases hm
      cases rv with | cons r0 t => cases r0; cases t with | cons r t => cases t; exact ⟨a, xs, i, _, rfl, rfl, ha, by rw [ra.length]; exact hl.1, hl.2.1, hl.2.2, q .non _ .non (((ra.take _).append (.cons r .nil)).append (ra.drop _))⟩
    · cases hm
  · cases hm
def rExtendR (K : PySem.W.Frag) : V → List V → Hp → VK → Prop := fun x vs H Q => ∃ l b xs zs, x = .ref l ∧ vs = [.ref b] ∧ H l = some (.lst xs) ∧ LR K H b zs ∧ xs.length + zs.length ≤ sizeLine ∧ Q .non (upd H l (.lst (xs ++ zs)))
theorem mt_extendR : MtR X "list.extend" (rExtendR X.K) := by
  intro pins s σ H x vs v us Q I rx rv h
  obtain ⟨l, b, xs, zs, rfl, rfl, hH, hB, hz, q⟩ := h
  cases rx
  obtain ⟨u, rfl, ru⟩ := rv.one
  cases ru
  obtain ⟨z, its, n, r, hl, e⟩ := I.lstM hH
  obtain ⟨z2, its2, n2, r2, hl2, e2⟩ := I.lstR hB
  have hsz : its.toArray.size + its2.toArray.size ≤ sizeLine := by rw [List.size_toArray, List.size_toArray]; omega
  have hlong : ¬ (!its.toArray.isEmpty && Builtin.List.listTooLong (its.toArray.size + its2.toArray.size)) = true := by
    rw [notLongL hsz, Bool.and_false]
    exact Bool.false_ne_true
  refine call_meets F.slot_list_extend ⟨_, e, rfl⟩ F.entry_list_extend (F.args_list_extend_2 _ _)
    (AutoSeq1.list_extend_list_list_0 l its.toArray n b its2.toArray n2 hlong (by rw [List.size_toArray]; omega) (by omega)) ⟨e, e2, ?_⟩
  refine ⟨.non, _, I.lset (its' := its ++ its2) hH e (by simp) (r.append r2) ?_, rfl, q⟩
  rw [List.length_append]
  omega
theorem ow_extend : MOwn X (rExtendR X.K) mExtend := fun F H a xs ds as ds' vs d Q s ha ra rv hm q => by
  unfold mExtend at hm
  split at hm
  · split at hm
    · rename_i zs hl
      cases hm
      cases rv with | cons r t => cases t; cases r with | lst e r => exact ⟨a, _, xs, _, rfl, rfl, ha, s.lr e, by rw [ra.length, r.length]; exact hl, q .non _ .non (ra.append r)⟩
    · cases hm
  · cases hm
def rRemD (K : PySem.W.Frag) : V → List V → Hp → VK → Prop := fun x vs H Q => ∃ (l : Addr) (xs : List V) (ds : List D) (y : V) (d : D) (j : Nat), x = .ref l ∧ vs = [y] ∧ H l = some (.lst xs) ∧ DpAll K H xs ds ∧ Dp K H y d ∧ inOk d ds = true ∧ SeqAt.dataPlace ds d = some j ∧ Q .non (upd H l (.lst (xs.eraseIdx j)))
theorem mt_remD (hu : X.A.units + 150 < cLine) : MtR X "list.remove" (rRemD X.K) := by
  intro pins s σ H x vs v us Q I rx rv h
  obtain ⟨l, xs, ds, y, d, j, rfl, rfl, hH, hx, hy, ok, hp, q⟩ := h
  cases rx
  obtain ⟨u, rfl, ru⟩ := rv.one
  obtain ⟨z, its, n, r, hl, e⟩ := I.lstM hH
  obtain ⟨as, r1⟩ := Dp.readsAll I ds xs its hx r
  obtain ⟨bs, r2⟩ := Dp.reads I d y u hy ru
  obtain ⟨o1, o2, o3⟩ := inOk_un ok
  refine SeqAt.remove_list_data (vs := its.toArray) (as := as) (bs := bs) ⟨_, e, rfl, n, rfl⟩ r1 r2 o2 o1 (by omega) hp (by rw [List.size_toArray]; omega) ?_
  refine ⟨.non, _, I.lset (its' := its.eraseIdx j) (t' := s.toks) hH e ?_ (r.eraseIdx j) ?_, rfl, q⟩
  · show its.toArray.eraseIdxIfInBounds j = (its.eraseIdx j).toArray
    rw [List.eraseIdxIfInBounds_toArray]
  · have z2 := len_erase xs j
    omega
theorem ow_remove : MOwn X (rRemD X.K) mRemove := fun F H a xs ds as ds' vs d Q s ha ra rv hm q => by
  unfold mRemove at hm
  split at hm
  · split at hm
    · rename_i e hl
      obtain ⟨j, hj, e'⟩ := Option.map_eq_some_iff.mp hm
      cases e'
      obtain ⟨o1, o2, _⟩ := inOk_un hl
      cases rv with
      | cons r t => cases t; exact ⟨a, xs, ds, _, _, j, rfl, rfl, ha, (ra.sub s).dp o2, (r.sub s).dp o1, hl, hj, q .non _ .non (ra.eraseIdx j)⟩
    · cases hm
  · cases hm
variable {o e : Expr} {es : List Expr} {fo : E} {fa : AD} {apos cpos : Pos}
theorem je_append (ho : JE X o fo) (ha : JAD X [e] fa)
    (hbase : attributeBase o "append" X.env (eval o X.env) = eval o X.env := by rfl)
    (hfew : ((backTo cpos (starEach [e] X.env)).all (fun x => !x.1) && (backToKw cpos (keywordEach [] X.env)).all (fun x => x.1.isSome)
      && decide (([e] : List Expr).length + ([] : List Keyword).length + (if ([] : List Keyword).isEmpty then 0 else 1) < 30)) = true := by rfl)
    (hline : (apos.endLine == cpos.line) = true := by rfl) (hs : starEach [e] X.env = (false, eval e X.env) :: starEach [] X.env := by rfl) (hplain : (backTo cpos (starEach [] X.env)).any (·.1) = false := by rfl) :
    JE X (.Call (.Attribute o "append" apos) [e] [] cpos) (mOwn mAppend fo fa) := je_mown F.plainAttrs_list F.slot_list_append F.type_list_append mt_append ow_append ho ha hbase hfew hline hs hplain
theorem je_remove (hu : Rm X) (ho : JE X o fo) (ha : JAD X [e] fa)
    (hbase : attributeBase o "remove" X.env (eval o X.env) = eval o X.env := by rfl)
    (hfew : ((backTo cpos (starEach [e] X.env)).all (fun x => !x.1) && (backToKw cpos (keywordEach [] X.env)).all (fun x => x.1.isSome)
      && decide (([e] : List Expr).length + ([] : List Keyword).length + (if ([] : List Keyword).isEmpty then 0 else 1) < 30)) = true := by rfl)
    (hline : (apos.endLine == cpos.line) = true := by rfl) (hs : starEach [e] X.env = (false, eval e X.env) :: starEach [] X.env := by rfl) (hplain : (backTo cpos (starEach [] X.env)).any (·.1) = false := by rfl) :
    JE X (.Call (.Attribute o "remove" apos) [e] [] cpos) (mOwn mRemove fo fa) := je_mown F.plainAttrs_list F.slot_list_remove F.type_list_remove (mt_remD hu) ow_remove ho ha hbase hfew hline hs hplain
theorem je_extend (ho : JE X o fo) (ha : JAD X [e] fa)
    (hbase : attributeBase o "extend" X.env (eval o X.env) = eval o X.env := by rfl)
    (hfew : ((backTo cpos (starEach [e] X.env)).all (fun x => !x.1) && (backToKw cpos (keywordEach [] X.env)).all (fun x => x.1.isSome)
      && decide (([e] : List Expr).length + ([] : List Keyword).length + (if ([] : List Keyword).isEmpty then 0 else 1) < 30)) = true := by rfl)
    (hline : (apos.endLine == cpos.line) = true := by rfl) (hs : starEach [e] X.env = (false, eval e X.env) :: starEach [] X.env := by rfl) (hplain : (backTo cpos (starEach [] X.env)).any (·.1) = false := by rfl) :
    JE X (.Call (.Attribute o "extend" apos) [e] [] cpos) (mOwn mExtend fo fa) := je_mown F.plainAttrs_list F.slot_list_extend F.type_list_extend mt_extendR ow_extend ho ha hbase hfew hline hs hplain
theorem je_insert {e2 : Expr} (ho : JE X o fo) (ha : JAD X [e, e2] fa)
    (hbase : attributeBase o "insert" X.env (eval o X.env) = eval o X.env := by rfl)
    (hfew : ((backTo cpos (starEach [e, e2] X.env)).all (fun x => !x.1) && (backToKw cpos (keywordEach [] X.env)).all (fun x => x.1.isSome)
      && decide (([e, e2] : List Expr).length + ([] : List Keyword).length + (if ([] : List Keyword).isEmpty then 0 else 1) < 30)) = true := by rfl)
    (hline : (apos.endLine == cpos.line) = true := by rfl) (hs : starEach [e, e2] X.env = (false, eval e X.env) :: starEach [e2] X.env := by rfl) (hplain : (backTo cpos (starEach [e2] X.env)).any (·.1) = false := by rfl) :
    JE X (.Call (.Attribute o "insert" apos) [e, e2] [] cpos) (mOwn mInsert fo fa) := je_mown F.plainAttrs_list F.slot_list_insert F.type_list_insert mt_insert ow_insert ho ha hbase hfew hline hs hplain
theorem je_popAt (ho : JE X o fo) (ha : JAD X [e] fa)
    (hbase : attributeBase o "pop" X.env (eval o X.env) = eval o X.env := by rfl)
    (hfew : ((backTo cpos (starEach [e] X.env)).all (fun x => !x.1) && (backToKw cpos (keywordEach [] X.env)).all (fun x => x.1.isSome)
      && decide (([e] : List Expr).length + ([] : List Keyword).length + (if ([] : List Keyword).isEmpty then 0 else 1) < 30)) = true := by rfl)
    (hline : (apos.endLine == cpos.line) = true := by rfl) (hs : starEach [e] X.env = (false, eval e X.env) :: starEach [] X.env := by rfl) (hplain : (backTo cpos (starEach [] X.env)).any (·.1) = false := by rfl) :
    JE X (.Call (.Attribute o "pop" apos) [e] [] cpos) (mOwn mPopAt fo fa) := je_mown F.plainAttrs_list F.slot_list_pop F.type_list_pop mt_popAt ow_popAt ho ha hbase hfew hline hs hplain
theorem je_pop (ho : JE X o fo) (hbase : attributeBase o "pop" X.env (eval o X.env) = eval o X.env := by rfl) (hline : (apos.endLine == cpos.line) = true := by rfl) :
    JE X (.Call (.Attribute o "pop" apos) [] [] cpos) (mOwn mPop fo adNil) := je_mown0 F.plainAttrs_list F.slot_list_pop F.type_list_pop mt_pop ow_pop ho hbase hline
end
end Ev
set_option Elab.async false
set_option linter.all false
set_option maxRecDepth 100000
set_option maxHeartbeats 1000000
/-! Ev16: dicts that change: d[k] = v, k in d, d.get; xs[i] = v. -/
namespace Ev
open PySem PySem.Spec PyProof.Rows L2

theorem _root_.L2.PS.or {X : Cx} {e : Stmt} {t t' : TS} (h : PS X e t) (h' : PS X e t') : PS X e (fun D σ H => t D σ H ∨ t' D σ H) := ⟨fun pins s σ H Q I hw => hw.elim (h.run pins s σ H Q I) (h'.run pins s σ H Q I)⟩
/-! ### an empty dict is of either kind -/
section
variable {X : Cx} {pins : List (Addr × Obj)} {σ : L2.St} {H : Hp} {s : Shared} {a : Addr}
theorem _root_.L2.Inv.relT (I : Inv X pins σ H s) (h : H a = some (.dK [])) : Inv X pins σ (upd H a (.dT [])) s := by
  obtain ⟨z, hd, vs, rel, o, es, ep, e, ex, hdt, _, pr, nd⟩ := dk_of I.hok h
  cases rel
  have he : es.toList = [] := by cases hes : es.toList with
    | nil => rfl
    | cons x y => rw [hes] at pr; cases pr
  exact I.write (x := a) (e := a) (o := .dT []) (h' := s.heap) (t' := s.toks) (by rw [h]; trivial) (.inl rfl) (fun b u _ q => q) ⟨_, e⟩ ⟨Nat.zero_le _, hd, [], .nil, o, es, ep, e, ex, hdt, he, List.nodup_nil⟩
theorem updK {H : Hp} {a : Addr} {o o' : HO} (h : H a = some o) : upd (upd H a o') a o = H := by
  funext b
  unfold upd
  split
  · rename_i e; subst e; exact h.symm
  · rfl
theorem _root_.L2.Inv.relK (I : Inv X pins σ H s) (h : H a = some (.dT [])) : Inv X pins σ (upd H a (.dK [])) s := by
  obtain ⟨z, hd, xs, rel, o, es, ep, e, ex, hdt, he, nd⟩ := (show ObjOk X.prog X.w H s.heap a (.dT []) from I.hok a _ h)
  cases rel
  have he' : es = #[] := by
    have : es.toList = [] := he
    cases es; simp at this; subst this; rfl
  subst he'
  refine I.write (x := a) (e := a) (o := .dK []) (h' := s.heap) (t' := s.toks) (by rw [h]; trivial) (.inl rfl) (fun b u _ q => q) ⟨_, e⟩ ⟨Nat.zero_le _, hd, [], .nil, o, #[], ep, e, ex, hdt, ?_, .nil, List.nodup_nil⟩
  intro e' h'
  simp at h'
end

/-- what the dict at a holds at y; an empty one, that is no one's at the moment, holds nothing -/
def DGetE (H : Hp) (a : Addr) (y : V) (o : Option V) : Prop := DGet H a y o ∨ (H a = some (.dK []) ∧ o = none ∧ ∃ (b : Addr) (ks : List Key), y = .ref b ∧ H b = some (.tup (ks.map kV)))
def DPutE (H : Hp) (a : Addr) (y v : V) (H' : Hp) : Prop := DPut H a y v H' ∨ (H a = some (.dK []) ∧ ∃ (b : Addr) (ks : List Key), y = .ref b ∧ H b = some (.tup (ks.map kV)) ∧ H' = upd H a (.dT [(ks, v)]))
def rDIn : R2 := fun x y H Q => ∃ a o, y = .ref a ∧ DGetE H a x o ∧ Q (.bl o.isSome) H
def rDNin : R2 := fun x y H Q => ∃ a o, y = .ref a ∧ DGetE H a x o ∧ Q (.bl (!o.isSome)) H
theorem upd_tup {H : Hp} {a b : Addr} {xs : List V} {o o' : HO} (h : H a = some o) (hne : o ≠ .tup xs) (hb : H b = some (.tup xs)) : upd H a o' b = some (.tup xs) := by
  have : b ≠ a := fun z => by subst z; rw [h] at hb; exact hne (Option.some.inj hb)
  rw [upd_ne this]; exact hb
section
variable {X : Cx}
theorem op_din (hu : X.A.units + 1 < cLine) : OpR X (compareOp .In) rDIn := by
  intro pins s σ H x y v u Q I rx ry h
  obtain ⟨a, o, rfl, g, q⟩ := h
  cases ry
  rcases g with g | ⟨ha, rfl, b, ks, rfl, hb⟩
  · exact d_in hu I g rx fun s3 I3 => ⟨.bl o.isSome, H, I3, rfl, q⟩
  · refine d_in hu (I.relT ha) (DGet.t upd_same (upd_tup ha (fun z => by cases z) hb)) rx fun s3 I3 => ⟨.bl false, H, ?_, rfl, q⟩
    have := I3.relK upd_same
    rwa [updK ha] at this
theorem op_dnin (hu : X.A.units + 1 < cLine) : OpR X (compareOp .NotIn) rDNin := by
  intro pins s σ H x y v u Q I rx ry h
  obtain ⟨a, o, rfl, g, q⟩ := h
  cases ry
  rcases g with g | ⟨ha, rfl, b, ks, rfl, hb⟩
  · exact d_notIn hu I g rx fun s3 I3 => ⟨.bl (!o.isSome), H, I3, rfl, q⟩
  · refine d_notIn hu (I.relT ha) (DGet.t upd_same (upd_tup ha (fun z => by cases z) hb)) rx fun s3 I3 => ⟨.bl true, H, ?_, rfl, q⟩
    have := I3.relK upd_same
    rwa [updK ha] at this
variable {o i value : Expr} {pos pos' : Pos} {td ty tv : TE}
def sDPutE (td ty tv : TE) : TS := fun D σ H => tv σ H fun v H1 => td σ H1 fun x H2 => ty σ H2 fun y H3 => ∃ a H4, x = .ref a ∧ DPutE H3 a y v H4 ∧ D.nx σ H4
theorem ps_dputE (hu : X.A.units + 1 < cLine) (ho : PE X o td) (hi : PE X i ty) (hv : PE X value tv) (hs : swapsWith value (some (.Subscript o i pos')) pos.line X.env = pure false) :
    PS X (.Assign [.Subscript o i pos'] value pos) (sDPutE td ty tv) := by
  refine ⟨fun pins s σ H D I h => ?_⟩
  refine wpAny_Assign_Subscript (thn (hv.run pins s σ H _ I h) fun r s1 ⟨v, H1, I1, rv, q1⟩ => thn (ho.run pins s1 σ H1 _ I1 q1) fun u s2 ⟨x, H2, I2, rx, q2⟩ => thn (hi.run pins s2 σ H2 _ I2 q2) fun iv s3 ⟨y, H3, I3, ry, a, H4, ex, g, q3⟩ => ?_) hs
  subst ex
  obtain rfl : u = Value.ref a := rx
  rcases g with g | ⟨ha, b, ks, rfl, hb, e⟩
  · exact d_setItem hu I3 g ry rv fun s4 I4 => ⟨σ, H4, I4, q3⟩
  · refine d_setItem hu (I3.relT ha) (H' := upd (upd H3 a (.dT [])) a (.dT (putK [] ks v))) (DPut.t upd_same (upd_tup ha (fun z => by cases z) hb) (Nat.lt_of_lt_of_le (Nat.zero_lt_succ 0) (by rw [sizeLine_eq]; omega))) ry rv fun s4 I4 => ⟨σ, H4, ?_, q3⟩
    rw [upd_upd] at I4
    rw [e]
    exact I4
end

/-! ### on data -/
def dput (kvs : List (D × D)) (k v : D) : List (D × D) :=
  if (kvs.any fun p => PyData.eqv p.1 k) = true then kvs.map (fun p => if PyData.eqv p.1 k = true then (p.1, v) else p) else kvs ++ [(k, v)]
def ownE (r : Rs) (e : Env) : Bool := match r with
  | .var i => match e[i]? with
    | some (.own _) => true
    | _ => false
  | _ => false
def fitsE (r : Rs) (e : Env) (kvs : List (D × D)) (k : D) : Bool := fits kvs k || (match k, kvs with
  | .tuple ks, [] => (asKeys ks).isSome && !kcOk ks && ownE r e
  | _, _ => false)
section
variable {K : PySem.W.Frag} {c : Ctx} {F H : Hp} {σ : L2.St} {env : Env}
theorem RpK.append : ∀ {kvs : List (Key × V)} {ds : List (D × D)} {k : Key} {v : V} {d : D}, RpK K F kvs ds → Rp K F v d → RpK K F (kvs ++ [(k, v)]) (ds ++ [(kD k, d)])
  | _, _, _, _, _, .nil, r => .cons r .nil
  | _, _, _, _, _, .cons r0 t, r => .cons r0 (t.append r)
theorem RpT.append : ∀ {kvs : List (List Key × V)} {ds : List (D × D)} {k : List Key} {v : V} {d : D}, RpT K F kvs ds → Rp K F v d → RpT K F (kvs ++ [(k, v)]) (ds ++ [(.tuple (k.map kD), d)])
  | _, _, _, _, _, .nil, r => .cons r .nil
  | _, _, _, _, _, .cons r0 t, r => .cons r0 (t.append r)
theorem RpK.any' (k : Key) : ∀ {kvs : List (Key × V)} {ds : List (D × D)}, RpK K F kvs ds → (kvs.any fun kv => decide (kv.1 = k)) = (ds.any fun p => PyData.eqv p.1 (kD k))
  | _, _, .nil => rfl
  | _, _, .cons r t => by rw [List.any_cons, List.any_cons, RpK.any' k t, eqv_kD]
theorem RpT.any' (k : List Key) : ∀ {kvs : List (List Key × V)} {ds : List (D × D)}, RpT K F kvs ds → (kvs.any fun kv => decide (kv.1 = k)) = (ds.any fun p => PyData.eqv p.1 (.tuple (k.map kD)))
  | _, _, .nil => rfl
  | _, _, .cons r t => by rw [List.any_cons, List.any_cons, RpT.any' k t, eqv_tD]
theorem RpK.repl (k : Key) {v : V} {d : D} (rv : Rp K F v d) : ∀ {kvs : List (Key × V)} {ds : List (D × D)}, RpK K F kvs ds → RpK K F (kvs.map fun kv => if kv.1 = k then (kv.1, v) else kv) (ds.map fun p => if PyData.eqv p.1 (kD k) = true then (p.1, d) else p)
  | _, _, .nil => .nil
  | _, _, .cons (k := k') r t => by
    rw [List.map_cons, List.map_cons]
    by_cases e : k' = k
    · rw [if_pos e, if_pos (by rw [eqv_kD]; simp [e])]; exact .cons rv (RpK.repl k rv t)
    · rw [if_neg e, if_neg (by rw [eqv_kD]; simp [e])]; exact .cons r (RpK.repl k rv t)
theorem RpT.repl (k : List Key) {v : V} {d : D} (rv : Rp K F v d) : ∀ {kvs : List (List Key × V)} {ds : List (D × D)}, RpT K F kvs ds → RpT K F (kvs.map fun kv => if kv.1 = k then (kv.1, v) else kv) (ds.map fun p => if PyData.eqv p.1 (.tuple (k.map kD)) = true then (p.1, d) else p)
  | _, _, .nil => .nil
  | _, _, .cons (k := k') r t => by
    rw [List.map_cons, List.map_cons]
    by_cases e : k' = k
    · rw [if_pos e, if_pos (by rw [eqv_tD]; simp [e])]; exact .cons rv (RpT.repl k rv t)
    · rw [if_neg e, if_neg (by rw [eqv_tD]; simp [e])]; exact .cons r (RpT.repl k rv t)
theorem RpK.put {kvs : List (Key × V)} {ds : List (D × D)} {k : Key} {v : V} {d : D} (r : RpK K F kvs ds) (rv : Rp K F v d) : RpK K F (putK kvs k v) (dput ds (kD k) d) := by
  unfold putK dput
  rw [r.any' k]
  by_cases q : (ds.any fun p => PyData.eqv p.1 (kD k)) = true
  · rw [if_pos q, if_pos q]; exact r.repl k rv
  · rw [if_neg q, if_neg q]; exact r.append rv
theorem RpT.put {kvs : List (List Key × V)} {ds : List (D × D)} {k : List Key} {v : V} {d : D} (r : RpT K F kvs ds) (rv : Rp K F v d) : RpT K F (putK kvs k v) (dput ds (.tuple (k.map kD)) d) := by
  unfold putK dput
  rw [r.any' k]
  by_cases q : (ds.any fun p => PyData.eqv p.1 (.tuple (k.map kD))) = true
  · rw [if_pos q, if_pos q]; exact r.repl k rv
  · rw [if_neg q, if_neg q]; exact r.append rv
theorem putK_ne {κ : Type} [DecidableEq κ] {kvs : List (κ × V)} {k : κ} {v : V} : putK kvs k v ≠ [] := by
  unfold putK
  split
  · rename_i h
    cases kvs with
    | nil => cases h
    | cons a b => simp
  · simp
def isKey : D → Bool
  | .int _ => true
  | .str _ => true
  | .tuple ks => (asKeys ks).isSome && !kcOk ks
  | _ => false
/-- a key, as a datum: an int or a text, or a tuple that is laid -/
inductive KeyOf (H : Hp) : V → D → Prop
  | k (k : Key) : KeyOf H (kV k) (kD k)
  | t {b : Addr} (ks : List Key) : H b = some (.tup (ks.map kV)) → KeyOf H (.ref b) (.tuple (ks.map kD))
theorem KeyOf.tup {y : V} {d : D} {ds : List D} (h : KeyOf H y d) (e : d = .tuple ds) : ∃ (b : Addr) (ks : List Key), y = .ref b ∧ ds = ks.map kD ∧ H b = some (.tup (ks.map kV)) := by
  cases h with
  | k k => cases k <;> cases e
  | t ks hb => cases e; exact ⟨_, ks, rfl, rfl, hb⟩
theorem keyOf {y : V} {k : D} (s : Sub F H) (r : Rp K F y k) (h : isKey k = true) : KeyOf H y k := by
  cases r with
  | int i => exact .k (.inl i)
  | str x => exact .k (.inr x)
  | tup e r =>
    rename_i b xs ds
    simp only [isKey, Bool.and_eq_true, Option.isSome_iff_exists, Bool.not_eq_true'] at h
    obtain ⟨⟨ks, h1⟩, h2⟩ := h
    have e1 := asKeys_eq h1
    subst e1
    have ex := r.keys
    subst ex
    rcases e with e | e
    · exact .t ks (s.tup e)
    · rw [h2] at e; cases e.2
  | non => cases h
  | bl b => cases h
  | lst _ _ => cases h
  | dK _ _ => cases h
  | dT _ _ _ => cases h
theorem fits_key {kvs : List (D × D)} {k : D} (h : fits kvs k = true) : isKey k = true := by
  unfold fits at h
  split at h
  · rfl
  · rfl
  · simp only [isKey, Bool.and_eq_true] at h ⊢; exact ⟨h.1.2, h.2⟩
  · cases h
/-- a look-up -/
theorem dgetE_ok {x y : V} {r : Rs} {kvs : List (D × D)} {k : D} (g : G K c F H σ env) (rx : RsOk K c F H σ env x r) (lk : look r env = some (.dict kvs)) (hk : Rp K F y k) (f : fitsE r env kvs k = true) : ∃ a o, x = .ref a ∧ DGetE H a y o ∧ RO K F o (dget kvs k) := by
  unfold fitsE at f
  rw [Bool.or_eq_true] at f
  rcases f with f | f
  · obtain ⟨a, o, e, h1, h2⟩ := dget_ok g.sub (look_ok g rx lk) hk f
    exact ⟨a, o, e, .inl h1, h2⟩
  · split at f
    · rename_i ks
      simp only [Bool.and_eq_true] at f
      obtain ⟨⟨f1, f2⟩, f3⟩ := f
      obtain ⟨b, ks', ey, eks, hb⟩ := (keyOf g.sub hk (by simp only [isKey, Bool.and_eq_true]; exact ⟨f1, f2⟩)).tup rfl
      subst ey
      subst eks
      unfold ownE at f3
      split at f3
      · rename_i i
        split at f3
        · rename_i d es
          simp only [look, es, Option.bind_some, Slot.get, Option.some.injEq] at lk
          subst lk
          obtain ⟨a, ea, _, _, ob⟩ := g.slot i _ _ es rx
          cases ea
          cases ob with
          | dK e r => cases r; exact ⟨a, none, rfl, .inr ⟨e, rfl, _, _, rfl, hb⟩, trivial⟩
          | dT n e r => cases r; exact absurd rfl n
        · cases f3
      · cases f3
    · cases f
/-- a store into one's own dict -/
theorem G.ownD (g : G K c F H σ env) {i : Nat} {x y v : V} {kvs : List (D × D)} {k d : D} (es : env[i]? = some (.own (.dict kvs))) (ev : σ[i]? = some (some x)) (ry : Rp K F y k) (rv : Rp K F v d) (f : fitsE (.var i) env kvs k = true) (hl : kvs.length < sizeLine) :
    ∃ a H', x = .ref a ∧ DPutE H a y v H' ∧ G K c F H' σ (env.set i (.own (.dict (dput kvs k d)))) := by
  obtain ⟨a, e1, hF, h0, ob⟩ := g.slot i _ _ es ev
  cases e1
  have wr : ∀ o, Ob K F (upd H a o) a (.dict (dput kvs k d)) → G K c F (upd H a o) σ (env.set i (.own (.dict (dput kvs k d)))) := fun o hob => g.write es rfl ev rfl ⟨a, rfl, hF, h0, hob⟩
  unfold fitsE at f
  rw [Bool.or_eq_true] at f
  rcases f with f | f
  · have kk := keyOf g.sub ry (fits_key f)
    cases kk with
    | k k =>
      cases ob with
      | dK e r => exact ⟨a, _, rfl, .inl (DPut.k e (by rw [r.length]; exact hl)), wr _ (.dK upd_same (r.put rv))⟩
      | dT n e r =>
        have hk := r.kind n
        cases k <;> simp [kD, fits, hk] at f
    | t ks hb =>
      cases ob with
      | dK e r =>
        have hk := r.kind
        simp [fits, hk] at f
      | dT n e r => exact ⟨a, _, rfl, .inl (DPut.t e hb (by rw [r.length]; exact hl)), wr _ (.dT putK_ne upd_same (r.put rv))⟩
  · split at f
    · rename_i ks
      simp only [Bool.and_eq_true] at f
      obtain ⟨⟨f1, f2⟩, _⟩ := f
      obtain ⟨b, ks', ey, eks, hb⟩ := (keyOf g.sub ry (by simp only [isKey, Bool.and_eq_true]; exact ⟨f1, f2⟩)).tup rfl
      subst ey
      subst eks
      cases ob with
      | dK e r => cases r; exact ⟨a, _, rfl, .inr ⟨e, _, ks', rfl, hb, rfl⟩, wr _ (.dT (by simp) upd_same (by
          have : RpT K F [(ks', v)] [(.tuple (ks'.map kD), d)] := .cons rv .nil
          simpa [dput] using this))⟩
      | dT n e r => cases r; exact absurd rfl n
    · cases f
end

/-! ### k in d -/
def eIn (neg : Bool) (fk fo : E) : E := fun e => do
  let (rk, e1) ← fk e
  let (ro, e2) ← fo e1
  match look (settle ro) e2 with
  | some (.dict _) => do
    let (k, e3) ← take (settle rk) e2
    match look (settle ro) e3 with
    | some (.dict kvs) => if fitsE (settle ro) e3 kvs k then pure (.shr (.bool (Bool.xor (dget kvs k).isSome neg)), e3) else none
    | _ => none
  | _ => eBin (if neg then opNin else opIn) fk fo e
theorem eIn_ok {K : PySem.W.Frag} {neg : Bool} {fk fo : E} {σ : L2.St} {H : Hp} {Q : VK} (w : tE K (eIn neg fk fo) σ H Q) :
    tE K (eBin (if neg then opNin else opIn) fk fo) σ H Q ∨ tOp (fun x y H Q => ∃ a o, y = .ref a ∧ DGetE H a x o ∧ Q (.bl (Bool.xor o.isSome neg)) H) (tE K fk) (tE K fo) σ H Q := by
  obtain ⟨c, F, env, res, env', g, hf, q⟩ := w
  have hf0 := hf
  simp only [eIn, bind, Option.bind_eq_some_iff] at hf
  obtain ⟨⟨rk, e1⟩, h1, ⟨ro, e2⟩, h2, hf⟩ := hf
  dsimp only at h2 hf
  split at hf
  · rename_i kvs0 hl0
    refine .inr ?_
    simp only [Option.bind_eq_some_iff] at hf
    obtain ⟨⟨k, e3⟩, h3, hf⟩ := hf
    dsimp only at hf
    split at hf
    · rename_i kvs hl
      split at hf
      · rename_i hfit
        cases hf
        refine ⟨c, F, env, rk, e1, g, h1, fun x F1 H1 g1 s1 r1 => ?_⟩
        obtain ⟨F2, g2, s2, r2⟩ := settle_ok g1 r1
        refine ⟨c, F2, e1, ro, e2, g2, h2, fun y F3 H3 g3 s3 r3 => ?_⟩
        obtain ⟨F4, g4, s4, r4⟩ := settle_ok g3 r3
        obtain ⟨F5, g5, s5, r5⟩ := take_ok g4 (r2.keep (settle_settled rk) (s3.trans s4)) h3
        obtain ⟨a, o, ea, hg, ro'⟩ := dgetE_ok g5 (r4.keep (settle_settled ro) s5) hl r5 hfit
        refine ⟨a, o, ea, hg, ?_⟩
        have e : o.isSome = (dget kvs k).isSome := by
          cases o <;> cases hd : dget kvs k <;> rw [hd] at ro' <;> first | rfl | exact ro'.elim
        rw [e]
        exact q _ F5 H3 g5 ((((s1.trans s2).trans s3).trans s4).trans s5) (.bl _)
      · cases hf
    · cases hf
  · exact .inl ⟨c, F, env, res, env', g, hf, q⟩
section
variable {X : Cx} {a b : Expr} {fa fb : E} {pos : Pos}
theorem pe_in (hu : Rm X) (ha : JE X a fa) (hb : JE X b fb) (hm : behindInMarks .In b = false := by rfl) : JE X (.Compare a [.In] [b] pos) (eIn false fa fb) :=
  ((je_cp (cr_in hu) ha hb hm).or (pe_cmpR (op_din (by unfold Rm at hu; omega)) ha hb hm)).imp fun σ H Q w => (eIn_ok w).imp id fun ⟨c, F, env, r, e', g, h1, q⟩ => ⟨c, F, env, r, e', g, h1, fun v F' H' g' s' r' =>
    let ⟨c2, F2, en2, r2, e2, g2, h2, q2⟩ := q v F' H' g' s' r'
    ⟨c2, F2, en2, r2, e2, g2, h2, fun v2 F3 H3 g3 s3 r3 => let ⟨a, o, z1, z2, z3⟩ := q2 v2 F3 H3 g3 s3 r3; ⟨a, o, z1, z2, by simpa using z3⟩⟩⟩
theorem pe_nin (hu : Rm X) (ha : JE X a fa) (hb : JE X b fb) (hm : behindInMarks .NotIn b = false := by rfl) : JE X (.Compare a [.NotIn] [b] pos) (eIn true fa fb) :=
  ((je_cp (cr_nin hu) ha hb hm).or (pe_cmpR (op_dnin (by unfold Rm at hu; omega)) ha hb hm)).imp fun σ H Q w => (eIn_ok w).imp id fun ⟨c, F, env, r, e', g, h1, q⟩ => ⟨c, F, env, r, e', g, h1, fun v F' H' g' s' r' =>
    let ⟨c2, F2, en2, r2, e2, g2, h2, q2⟩ := q v F' H' g' s' r'
    ⟨c2, F2, en2, r2, e2, g2, h2, fun v2 F3 H3 g3 s3 r3 => let ⟨a, o, z1, z2, z3⟩ := q2 v2 F3 H3 g3 s3 r3; ⟨a, o, z1, z2, by simpa using z3⟩⟩⟩
end
end Ev
set_option Elab.async false
set_option linter.all false
set_option maxRecDepth 100000
set_option maxHeartbeats 1000000
/-! Ev17: x[i] = v; d.get; {}; d.pop. -/
namespace Ev
open PySem PySem.Spec PyProof.Rows L2

/-- the slot's object behind x[k] = v -/
def setAt (i : Nat) (e : Env) (k v : D) : Option Env := match e[i]? with
  | some (.own (.list ds)) => match k with
    | .int j => (ixN ds.length j).map fun n => e.set i (.own (.list (ds.set n v)))
    | _ => none
  | some (.io (.list ds)) => match k with
    | .int j => if scalD v then (ixN ds.length j).map fun n => e.set i (.io (.list (ds.set n v))) else none
    | _ => none
  | some (.own (.dict kvs)) => if fitsE (.var i) e kvs k = true ∧ kvs.length < sizeLine then some (e.set i (.own (.dict (dput kvs k v)))) else none
  | _ => none
def sSub (fv fo fi : E) : S := fun e => do
  let (rv, e1) ← fv e
  let (ro, e2) ← fo e1
  match ro with
  | .var i => do
    let (ri, e3) ← fi e2
    let (k, e4) ← take ri e3
    let (v, e5) ← take (settle rv) e4
    let e6 ← setAt i e5 k v
    pure (.nx e6)
  | _ => none
section
variable {K : PySem.W.Frag} {c : Ctx} {F H : Hp} {σ : L2.St} {env env' : Env}
theorem setAt_ok {i : Nat} {k v : D} {x y z : V} (g : G K c F H σ env) (ev : σ[i]? = some (some x)) (rk : Rp K F y k) (rv : Rp K F z v) (h : setAt i env k v = some env') :
    (∃ p xs j n, x = .ref p ∧ y = .int j ∧ H p = some (.lst xs) ∧ ixN xs.length j = some n ∧ G K c F (upd H p (.lst (xs.set n z))) σ env') ∨ ∃ a H', x = .ref a ∧ DPutE H a y z H' ∧ G K c F H' σ env' := by
  unfold setAt at h
  split at h
  · rename_i ds es
    split at h
    · rename_i j
      obtain ⟨n, hn, e⟩ := Option.map_eq_some_iff.mp h
      subst e
      cases rk
      obtain ⟨a, xs, rfl, ha, rx, wr⟩ := g.ownL es ev
      exact .inl ⟨a, xs, j, n, rfl, rfl, ha, by rw [rx.length]; exact hn, wr _ _ (rx.set n rv)⟩
    · cases h
  · rename_i ds es
    split at h
    · rename_i j
      split at h
      · rename_i hs
        obtain ⟨n, hn, e⟩ := Option.map_eq_some_iff.mp h
        subst e
        cases rk
        obtain ⟨a, xs, rfl, ha, rx, wr⟩ := g.ioL es ev
        exact .inl ⟨a, xs, j, n, rfl, rfl, ha, by rw [rx.length]; exact hn, wr n z v rv hs⟩
      · cases h
    · cases h
  · rename_i kvs es
    split at h
    · rename_i hf
      cases h
      obtain ⟨a, H', e1, h1, h2⟩ := g.ownD es ev rk rv hf.1 hf.2
      exact .inr ⟨a, H', e1, h1, h2⟩
    · cases h
  · cases h
end
def isLst (i : Nat) (e : Env) : Bool := match e[i]? with
  | some (.own (.list _)) => true
  | some (.io (.list _)) => true
  | _ => false
section
variable {X : Cx} {o i value : Expr} {pos pos' : Pos} {fv fo fi : E}
theorem sub_ok {K : PySem.W.Frag} {σ : L2.St} {H : Hp} {Dn : Ends} (w : tS K (sSub fv fo fi) Dn σ H) :
    tAsg (tE K fv) (gSub (tE K fo) (tE K fi) fun o i v H Q => rSetL o i v H Q ∨ ∃ a H', o = .ref a ∧ DPutE H a i v H' ∧ Q H') Dn σ H := by
  obtain ⟨c, F, env, out, g, hf, q⟩ := w
  simp only [sSub, bind, Option.bind_eq_some_iff] at hf
  obtain ⟨⟨rv, e1⟩, h1, ⟨ro, e2⟩, h2, hf⟩ := hf
  dsimp only at h2 hf
  split at hf
  · rename_i n
    simp only [Option.bind_eq_some_iff, pure, Option.some.injEq] at hf
    obtain ⟨⟨ri, e3⟩, h3, ⟨k, e4⟩, h4, ⟨v, e5⟩, h5, e6, h6, e⟩ := hf
    cases e
    refine ⟨c, F, env, rv, e1, g, h1, fun z F1 H1 g1 s1 r1 => ?_⟩
    obtain ⟨F2, g2, s2, r2⟩ := settle_ok g1 r1
    refine ⟨c, F2, e1, _, e2, g2, h2, fun x F3 H3 g3 s3 r3 => ?_⟩
    refine ⟨c, F3, e2, ri, e3, g3, h3, fun y F4 H4 g4 s4 r4 => ?_⟩
    obtain ⟨F5, g5, s5, r5⟩ := take_ok g4 r4 h4
    obtain ⟨F6, g6, s6, r6⟩ := take_ok g5 (r2.keep (settle_settled rv) ((s3.trans s4).trans s5)) h5
    have ss := ((((s1.trans s2).trans s3).trans s4).trans s5).trans s6
    rcases setAt_ok g6 r3 (r5.mono s6) r6 h6 with ⟨p, xs, j, m, e1, e2, e3, e4, g7⟩ | ⟨a, H', e1, e2, g7⟩
    · exact .inl ⟨p, xs, j, m, e1, e2, e3, e4, q σ F6 _ g7 ss⟩
    · exact .inr ⟨a, H', e1, e2, q σ F6 _ g7 ss⟩
  · cases hf
/-- one store for both: d[y] = v, xs[i] = v -/
theorem set_both (hu : X.A.units + 1 < cLine) : PSet X (fun o i v H Q => rSetL o i v H Q ∨ ∃ a H', o = .ref a ∧ DPutE H a i v H' ∧ Q H') := by
  intro pins s σ H o i v ov iv u Q I ro ri rv h
  rcases h with h | ⟨a, H', rfl, g, q⟩
  · exact set_list pins s σ H o i v ov iv u Q I ro ri rv h
  · cases ro
    rcases g with g | ⟨ha, b, ks, rfl, hb, e⟩
    · exact d_setItem hu I g ri rv fun s4 I4 => ⟨H', I4, q⟩
    · refine d_setItem hu (I.relT ha) (H' := upd (upd H a (.dT [])) a (.dT (putK [] ks v))) (DPut.t upd_same (upd_tup ha (fun z => by cases z) hb) (Nat.lt_of_lt_of_le (Nat.zero_lt_succ 0) (by rw [sizeLine_eq]; omega))) ri rv fun s4 I4 => ⟨H', ?_, q⟩
      rw [upd_upd] at I4
      rw [e]
      exact I4
theorem js_sub (hu : Rm X) (hv : JE X value fv) (ho : JE X o fo) (hi : JE X i fi)
    (ha : ∀ v, assign (.Subscript o i pos') X.env v = (do
      let ov ← holding [v] (eval o X.env)
      let iv ← holding [v, ov] (eval i X.env)
      standAt pos'
      holding [v, ov, iv] (setItem ov iv v)
      release [v, ov, iv] []) := by intro _; rfl)
    (hs : swapsWithSole [.Subscript o i pos'] value pos.line X.env = pure false := by rfl) (hw : swappedStores [.Subscript o i pos'] value X.env = pure none := by rfl)
    (h1 : (assignEach [.Subscript o i pos'] X.env).map (·.2) = [assign (.Subscript o i pos') X.env] := by rfl) :
    JS X (.Assign [.Subscript o i pos'] value pos) (sSub fv fo fi) := (ps_asg hv (pg_sub ho hi (set_both (by unfold Rm at hu; omega)) ha) hs hw h1).imp fun Dn σ H w => sub_ok w
end

/-! ### {} -/
def eDict0 : E := fun e => some (.new (.dict []), e)
section
variable {X : Cx} {pos : Pos}
theorem je_dict0 : JE X (.Dict [] [] pos) eDict0 := pe_dnewK.imp fun σ H Q w => by
  obtain ⟨c, F, env, r, env', g, hf, q⟩ := w
  cases hf
  intro p hp
  obtain ⟨g2, r2⟩ := g.laidNew (d := .dict []) (o := .dK []) hp (.dK upd_same .nil)
  exact q _ _ _ g2 (Same.refl F) r2
end

/-! ### d.get(k), d.get(k, x) -/
def eGet1 (fo fk : E) : E := fun e => do
  let (ro, e1) ← fo e
  match look (settle ro) e1 with
  | some (.dict _) => do
    let (rk, e2) ← fk e1
    let (k, e3) ← take rk e2
    match look (settle ro) e3 with
    | some (.dict kvs) => if fitsE (settle ro) e3 kvs k then pure (.shr ((dget kvs k).getD .none), e3) else none
    | _ => none
  | _ => none
def eGet2 (fo fk fx : E) : E := fun e => do
  let (ro, e1) ← fo e
  match look (settle ro) e1 with
  | some (.dict _) => do
    let (rk, e2) ← fk e1
    let (k, e3) ← take rk e2
    let (rx, e4) ← fx e3
    let (x, e5) ← take rx e4
    match look (settle ro) e5 with
    | some (.dict kvs) => if fitsE (settle ro) e5 kvs k then pure (.shr ((dget kvs k).getD x), e5) else none
    | _ => none
  | _ => none
section
variable {X : Cx} {pins : List (Addr × Obj)} {σ : L2.St} {H : Hp} {s : Shared} {a : Addr} {y d : V} {u r : Value} {o : Option V} {A : Around} {E : Value → Shared → Prop}
theorem d_get1E {Q : Value → Shared → Prop} (hu : A.units + 1 < cLine) (I : Inv X pins σ H s) (g : DGetE H a y o) (ry : RelV y u) (h : ∀ w' s', Inv X pins σ H s' → RelV (o.getD .non) w' → Q w' s') :
    wpAny (model X.prog X.w) A (call (.builtin "dict.get") [.ref a, u]) Q E s := by
  rcases g with g | ⟨ha, rfl, b, ks, rfl, hb⟩
  · exact d_get1 hu I g ry h
  · refine d_get1 hu (I.relT ha) (DGet.t upd_same (upd_tup ha (fun z => by cases z) hb)) ry fun w' s3 I3 rw' => h w' s3 ?_ rw'
    have := I3.relK upd_same
    rwa [updK ha] at this
theorem d_get2E {Q : Value → Shared → Prop} (hu : A.units + 1 < cLine) (I : Inv X pins σ H s) (g : DGetE H a y o) (ry : RelV y u) (rd : RelV d r) (h : ∀ w' s', Inv X pins σ H s' → RelV (o.getD d) w' → Q w' s') :
    wpAny (model X.prog X.w) A (call (.builtin "dict.get") [.ref a, u, r]) Q E s := by
  rcases g with g | ⟨ha, rfl, b, ks, rfl, hb⟩
  · exact d_get2 hu I g ry rd h
  · refine d_get2 hu (I.relT ha) (DGet.t upd_same (upd_tup ha (fun z => by cases z) hb)) ry rd fun w' s3 I3 rw' => h w' s3 ?_ rw'
    have := I3.relK upd_same
    rwa [updK ha] at this
end
section
variable {X : Cx} {o e f : Expr} {apos cpos : Pos} {td ty tx : TE} {fo fk fx : Ev.E}
def tDGet1E (td ty : TE) : TE := fun σ H Q => td σ H fun x H1 => ∃ a, x = .ref a ∧ IsD H1 a ∧ ty σ H1 fun y H2 => ∃ o, DGetE H2 a y o ∧ Q (o.getD .non) H2
def tDGet2E (td ty tx : TE) : TE := fun σ H Q => td σ H fun x H1 => ∃ a, x = .ref a ∧ IsD H1 a ∧ ty σ H1 fun y H2 => tx σ H2 fun z H3 => ∃ o, DGetE H3 a y o ∧ Q (o.getD z) H3
theorem pe_dget1E (hu : X.A.units + 1 < cLine) (ho : PE X o td) (he : PE X e ty) (m : M1 X o "get" apos e cpos) : PE X (.Call (.Attribute o "get" apos) [e] [] cpos) (tDGet1E td ty) := by
  refine ⟨fun pins s σ H Q I h => ?_⟩
  refine wpAny_Call_method m.base m.few m.line PySem.F.plainAttrs_dict PySem.F.slot_dict_get PySem.F.type_dict_get (thn (ho.run pins s σ H _ I h) fun u s1 ⟨x, H1, I1, rx, a, ex, d, q1⟩ => ?_)
  subst ex
  obtain rfl : u = Value.ref a := rx
  obtain ⟨t1, t2, _⟩ := isD_at I1 d
  refine ⟨t1, t2, ?_⟩
  rw [m.trees]
  refine Calls.callWith_builtin rfl (Calls.evalArgs_plain (Calls.spliced_cons (thn (he.run pins s1 σ H1 _ I1 q1) fun iv s2 ⟨y, H2, I2, ry, ov, g, q2⟩ => Calls.spliced_nil ?_)))
  exact d_get1E hu I2 g ry fun w' s3 I3 rw' => ⟨_, H2, I3, rw', q2⟩
theorem pe_dget2E (hu : X.A.units + 1 < cLine) (ho : PE X o td) (he : PE X e ty) (hf : PE X f tx) (m : M2 X o "get" apos e f cpos) : PE X (.Call (.Attribute o "get" apos) [e, f] [] cpos) (tDGet2E td ty tx) := by
  refine ⟨fun pins s σ H Q I h => ?_⟩
  refine wpAny_Call_method m.base m.few m.line PySem.F.plainAttrs_dict PySem.F.slot_dict_get PySem.F.type_dict_get (thn (ho.run pins s σ H _ I h) fun u s1 ⟨x, H1, I1, rx, a, ex, d, q1⟩ => ?_)
  subst ex
  obtain rfl : u = Value.ref a := rx
  obtain ⟨t1, t2, _⟩ := isD_at I1 d
  refine ⟨t1, t2, ?_⟩
  rw [m.trees]
  refine Calls.callWith_builtin rfl (Calls.evalArgs_plain (Calls.spliced_cons (thn (he.run pins s1 σ H1 _ I1 q1) fun iv s2 ⟨y, H2, I2, ry, q2⟩ =>
    Calls.spliced_cons (thn (hf.run pins s2 σ H2 _ I2 q2) fun fv s3 ⟨z, H3, I3, rz, ov, g, q3⟩ => Calls.spliced_nil ?_))))
  exact d_get2E hu I3 g ry rz fun w' s4 I4 rw' => ⟨_, H3, I4, rw', q3⟩
theorem Obs.isD {K : PySem.W.Frag} {F H : Hp} {x : V} {kvs : List (D × D)} (s : Sub F H) (h : Obs K F H x (.dict kvs)) : ∃ a, x = .ref a ∧ IsD H a := by
  rcases h.dict s with ⟨a, kv, e, r, _⟩ | ⟨a, kv, e, _, r, _⟩
  · exact ⟨a, e, .inl ⟨_, r⟩⟩
  · exact ⟨a, e, .inr ⟨_, r⟩⟩
theorem je_get1 (hu : Rm X) (ho : JE X o fo) (he : JE X e fk) (m : M1 X o "get" apos e cpos := by exact ⟨rfl, rfl, rfl, rfl⟩) : JE X (.Call (.Attribute o "get" apos) [e] [] cpos) (eGet1 fo fk) := (pe_dget1E (by unfold Rm at hu; omega) ho he m).imp fun σ H Q w => by
  obtain ⟨c, F, env, res, env', g, hf, q⟩ := w
  simp only [eGet1, bind, Option.bind_eq_some_iff] at hf
  obtain ⟨⟨ro, e1⟩, h1, hf⟩ := hf
  dsimp only at hf
  split at hf
  · rename_i kvs0 hl0
    simp only [Option.bind_eq_some_iff] at hf
    obtain ⟨⟨rk, e2⟩, h2, ⟨k, e3⟩, h3, hf⟩ := hf
    dsimp only at h3 hf
    split at hf
    · rename_i kvs hl
      split at hf
      · rename_i hfit
        cases hf
        refine ⟨c, F, env, ro, e1, g, h1, fun x F1 H1 g1 s1 r1 => ?_⟩
        obtain ⟨F2, g2, s2, r2⟩ := settle_ok g1 r1
        obtain ⟨a, rfl, hd⟩ := (look_ok g2 r2 hl0).isD g2.sub
        refine ⟨a, rfl, hd, c, F2, e1, rk, e2, g2, h2, fun y F3 H3 g3 s3 r3 => ?_⟩
        obtain ⟨F4, g4, s4, r4⟩ := take_ok g3 r3 h3
        obtain ⟨a', ov, ea, hg, ro'⟩ := dgetE_ok g4 (r2.keep (settle_settled ro) (s3.trans s4)) hl r4 hfit
        cases ea
        refine ⟨ov, hg, q _ F4 H3 g4 (((s1.trans s2).trans s3).trans s4) ?_⟩
        cases ov <;> cases hd : dget kvs k <;> rw [hd] at ro' <;> first | exact ro' | exact ro'.elim | exact Rp.non
      · cases hf
    · cases hf
  · cases hf
theorem je_get2 (hu : Rm X) (ho : JE X o fo) (he : JE X e fk) (hx : JE X f fx) (m : M2 X o "get" apos e f cpos := by exact ⟨rfl, rfl, rfl, rfl⟩) : JE X (.Call (.Attribute o "get" apos) [e, f] [] cpos) (eGet2 fo fk fx) := (pe_dget2E (by unfold Rm at hu; omega) ho he hx m).imp fun σ H Q w => by
  obtain ⟨c, F, env, res, env', g, hf, q⟩ := w
  simp only [eGet2, bind, Option.bind_eq_some_iff] at hf
  obtain ⟨⟨ro, e1⟩, h1, hf⟩ := hf
  dsimp only at hf
  split at hf
  · rename_i kvs0 hl0
    simp only [Option.bind_eq_some_iff] at hf
    obtain ⟨⟨rk, e2⟩, h2, ⟨k, e3⟩, h3, ⟨rx, e4⟩, h4, ⟨xd, e5⟩, h5, hf⟩ := hf
    dsimp only at h3 h4 h5 hf
    split at hf
    · rename_i kvs hl
      split at hf
      · rename_i hfit
        cases hf
        refine ⟨c, F, env, ro, e1, g, h1, fun x F1 H1 g1 s1 r1 => ?_⟩
        obtain ⟨F2, g2, s2, r2⟩ := settle_ok g1 r1
        obtain ⟨a, rfl, hd⟩ := (look_ok g2 r2 hl0).isD g2.sub
        refine ⟨a, rfl, hd, c, F2, e1, rk, e2, g2, h2, fun y F3 H3 g3 s3 r3 => ?_⟩
        obtain ⟨F4, g4, s4, r4⟩ := take_ok g3 r3 h3
        refine ⟨c, F4, e3, rx, e4, g4, h4, fun z F5 H5 g5 s5 r5 => ?_⟩
        obtain ⟨F6, g6, s6, r6⟩ := take_ok g5 r5 h5
        obtain ⟨a', ov, ea, hg, ro'⟩ := dgetE_ok g6 (r2.keep (settle_settled ro) (((s3.trans s4).trans s5).trans s6)) hl (r4.mono (s5.trans s6)) hfit
        cases ea
        refine ⟨ov, hg, q _ F6 H5 g6 (((((s1.trans s2).trans s3).trans s4).trans s5).trans s6) ?_⟩
        cases ov <;> cases hd : dget kvs k <;> rw [hd] at ro' <;> first | exact ro' | exact ro'.elim | exact r6
      · cases hf
    · cases hf
  · cases hf
end
end Ev
set_option Elab.async false
set_option linter.all false
set_option maxRecDepth 100000
set_option maxHeartbeats 1000000
/-! Ev18: dict comprehensions, comprehensions of two fors. -/
namespace Ev
open PySem PySem.Spec PyProof.Rows L2

/-! ### {k: v for tg in it if t} -/
def loopD (tg : TgE) (t : T) (fk fv : E) (vs : List Nat) : List D → List (D × D) → Env → Option (List (D × D) × Env)
  | [], acc, e => some (acc, e)
  | d :: ds, acc, e => do
    let e1 ← tg d (wipeE e vs)
    let (b, e2) ← t e1
    if b then do
      let (rk, e3) ← fk e2
      let (k, e3') ← take rk e3
      let (rv, e4) ← fv e3'
      let (v, e5) ← take rv e4
      if okWipe e5 vs = true ∧ (asKey k).isSome = true ∧ acc.length < sizeLine then loopD tg t fk fv vs ds (dput acc k v) e5 else none
    else if okWipe e2 vs then loopD tg t fk fv vs ds acc e2 else none
def eDComp (it : I) (tg : TgE) (t : T) (fk fv : E) (vs : List Nat) : E := fun e => do
  let (ds, l, e1) ← it e
  if okWipe e1 vs then do
    let (out, e2) ← loopD tg t fk fv vs ds [] e1
    let e3 ← unlockE l (restoreE e1 (wipeE e2 vs) vs)
    pure (.new (.dict out), e3)
  else none
section
variable {J : It} {n : Nat} {Gp : Hp → Prop} {Y : Nat → Hp → V → Hp → Prop}
theorem dc_it (w : Walk J n Gp Y) {g : TG} {tt : TT} {tk tv : TE} {vs : List Nat} {σ : L2.St} {H1 : Hp} {D : Addr} {Qd : Hp → Prop} (Pv : Nat → Hp → Prop) (h0 : Pv 0 (upd H1 D (.dK []))) (hG : ∀ i H, i ≤ n → Pv i H → Gp H)
    (hs : ∀ i x H H', i < n → Pv i H → Y i H x H' → g x (wipe σ vs) H' fun σ2 H2 => wipe σ2 vs = wipe σ vs ∧ tt σ2 H2 fun b H3 =>
      if b = true then tk σ2 H3 fun y H4 => tv σ2 H4 fun z H5 => ∃ kvs k, y = kV k ∧ H5 D = some (.dK kvs) ∧ kvs.length < sizeLine ∧ Pv (i + 1) (upd H5 D (.dK (putK kvs k z))) else Pv (i + 1) H3) (hd : ∀ H, Pv n H → Qd H) :
    ∃ W : Nat → Nat → Hp → Prop, (∃ m, W 0 m (upd H1 D (.dK []))) ∧ ∀ i m H, W i m H →
      (J.stop i H ∧ Qd H) ∨ (J.go i H ∧ ∃ Nx : Hp → Prop, (∀ H', Nx H' → ∃ m', m' < m ∧ W (i + 1) m' H') ∧ ∀ x H', J.yld i H x H' → g x (wipe σ vs) H' fun σ2 H2 => wipe σ2 vs = wipe σ vs ∧ tt σ2 H2 fun b H3 =>
        if b = true then tk σ2 H3 fun y H4 => tv σ2 H4 fun z H5 => ∃ kvs k, y = kV k ∧ H5 D = some (.dK kvs) ∧ kvs.length < sizeLine ∧ Nx (upd H5 D (.dK (putK kvs k z))) else Nx H3) := by
  refine ⟨fun i m H => m = n - i ∧ i ≤ n ∧ Pv i H, ⟨n, by simp, Nat.zero_le _, h0⟩, ?_⟩
  rintro i m H ⟨rfl, hi, p⟩
  have q := hG i H hi p
  by_cases hlt : i < n
  · refine .inr ⟨w.goes i H hlt q, Pv (i + 1), fun H' p' => ⟨n - (i + 1), by omega, rfl, hlt, p'⟩, fun x H' y => hs i x H H' hlt p (w.yields i H x H' hlt q y)⟩
  · have e : i = n := by omega
    subst e
    exact .inl ⟨w.stops H q, hd H p⟩
end
theorem loopD_ok {tg : TgE} {t : T} {fk fv : E} {vs : List Nat} : ∀ {ds : List D} {acc : List (D × D)} {e e' : Env} {out : List (D × D)}, okWipe e vs = true → loopD tg t fk fv vs ds acc e = some (out, e') → okWipe e' vs = true
  | [], _, _, _, _, h, hl => by cases hl; exact h
  | d :: ds, acc, e, e', out, h, hl => by
    simp only [loopD, bind, Option.bind_eq_some_iff] at hl
    obtain ⟨e1, h1, ⟨b, e2⟩, h2, h3⟩ := hl
    cases b with
    | true =>
      simp only [if_true, Option.bind_eq_some_iff] at h3
      obtain ⟨_, h4, _, h5, _, h6, _, h7, h8⟩ := h3
      split at h8
      · rename_i hw; exact loopD_ok hw.1 h8
      · cases h8
    | false =>
      dsimp only at h3
      rw [if_neg Bool.false_ne_true] at h3
      split at h3
      · rename_i hw; exact loopD_ok hw h3
      · cases h3
section
variable {X : Cx} {tg iter kx vx : Expr} {ifs : List Expr} {it : I} {ga : TgE} {ws : List Nat} {t : T} {fk fv : E} {scope : Scope} {own : List (Str × Nat)} {pos : Pos}
theorem dcomp_ok {vs : List Nat} (hws : ∀ j ∈ ws, j ∈ vs) {σ : L2.St} {H : Hp} {Q : VK} {ti : TI} {pre : Pre} (h : ItOk X.K it ti pre) (w : tEp X.K pre (eDComp it ga t fk fv vs) σ H Q) :
    tDc (fun σ H R => ti σ H fun J H' => Siz X.K H' → R J H') (tG X.K ga ws) (tT X.K t) (tE X.K fk) (tE X.K fv) vs σ H Q := by
  obtain ⟨c, F, env, res, env', g, hpre, hf, q⟩ := w
  simp only [eDComp, bind, Option.bind_eq_some_iff] at hf
  obtain ⟨⟨ds, l, e1⟩, h1, h2⟩ := hf
  dsimp only at h2
  split at h2
  · rename_i hw1
    simp only [Option.bind_eq_some_iff, pure, Option.some.injEq] at h2
    obtain ⟨⟨out, e2⟩, h3, e3, h4, e⟩ := h2
    cases e
    refine h.run g hpre h1 fun J c' F1 H1 hk g1 s1 W hsz siz D hD => ?_
    obtain ⟨Gp, Y, wk, hG, hY⟩ := W
    obtain ⟨n1, ⟨n2, n3⟩, n4⟩ := g1.new hD
    have hlkD : ∀ i, c'.lk i ≠ some D := fun i z => (g1.lkc i D z).1 n3
    refine dc_it wk (fun i H' => ∃ F' e acc kvs, G X.K (c'.hold D (.dK kvs)) F' H' (wipe σ vs) (wipeE e vs) ∧ okWipe e vs = true ∧ Same F1 F' ∧ RpK X.K F' kvs acc ∧ loopD ga t fk fv vs (ds.drop i) acc e = some (out, e2))
      ⟨F1, e1, [], [], (g1.hold hD).wiped hw1, hw1, Same.refl F1, .nil, h3⟩ (fun i H' _ P => ?_) (fun i x H2 H3 hi P y => ?_) fun H' P => ?_
    · obtain ⟨F', e, acc, kvs, g', _, s', _⟩ := P
      exact hG _ F' H' _ _ (CtxLe.hold n3) g' s'
    · obtain ⟨F2, e, acc, kvs, g2, hw, s2, ra, hl⟩ := P
      obtain ⟨d, F3, hd, g3, s3, rd, _⟩ := hY i H2 x H3 _ F2 _ _ hi (CtxLe.hold n3) g2 s2 y
      have hdrop : ds.drop i = d :: ds.drop (i + 1) := by
        obtain ⟨hlt, e'⟩ := List.getElem?_eq_some_iff.mp hd
        rw [← e']; exact List.drop_eq_getElem_cons hlt
      rw [hdrop] at hl
      simp only [loopD, bind, Option.bind_eq_some_iff] at hl
      obtain ⟨ea, h5, ⟨b, eb⟩, h6, h7⟩ := hl
      refine ⟨_, F3, _, d, ea, g3, rd, h5, fun σ4 F4 H4 o4 g4 s4 => ⟨off_wipe o4 hws, _, F4, ea, b, eb, g4, h6, fun F5 H5 g5 s5 => ?_⟩⟩
      have s15 : Same F1 F5 := ((s2.trans s3).trans s4).trans s5
      have s25 : Same F2 F5 := (s3.trans s4).trans s5
      cases b with
      | true =>
        simp only [if_true, Option.bind_eq_some_iff] at h7
        obtain ⟨⟨rk, ec⟩, h8, ⟨k, ec'⟩, h9, ⟨rv, ed⟩, h10, ⟨v, ee⟩, h11, h12⟩ := h7
        split at h12
        · rename_i hw4
          obtain ⟨hw5, hkey, hlen⟩ := hw4
          refine iteT ⟨_, F5, eb, rk, ec, g5, h8, fun y F6 H6 g6 s6 r6 => ?_⟩
          obtain ⟨F7, g7, s7, r7⟩ := take_ok g6 r6 h9
          refine ⟨_, F7, ec', rv, ed, g7, h10, fun z F8 H8 g8 s8 r8 => ?_⟩
          obtain ⟨F9, g9, s9, r9⟩ := take_ok g8 r8 h11
          have s29 := (((s25.trans s6).trans s7).trans s8).trans s9
          obtain ⟨k0, hk0⟩ := Option.isSome_iff_exists.mp hkey
          have ek := asKey_eq hk0
          subst ek
          have ey : y = kV k0 := by
            cases k0 with
            | inl i => cases r7; rfl
            | inr x => cases r7; rfl
          refine ⟨kvs, k0, ey, g9.held.1, by rw [ra.length]; exact hlen, F9, ee, dput acc (kD k0) v, putK kvs k0 z, ?_, hw5, (((s15.trans s6).trans s7).trans s8).trans s9, (ra.mono s29).put r9, h12⟩
          have g10 := (g9.wiped hw5).rehold (u := .dK (putK kvs k0 z)) n2 hlkD
          rw [off_wipe o4 hws] at g10
          exact g10
        · cases h12
      | false =>
        rw [if_neg Bool.false_ne_true] at h7
        split at h7
        · rename_i hw4
          refine iteF ⟨F5, eb, acc, kvs, ?_, hw4, s15, ra.mono s25, h7⟩
          have g8 := g5.wiped hw4
          rw [off_wipe o4 hws] at g8
          exact g8
        · cases h7
    · obtain ⟨F', e, acc, kvs, g', hw, s', ra, hl⟩ := P
      rw [List.drop_length] at hl
      cases hl
      have g2 := g'.restore (g1.hold (o := .dK kvs) hD) s' hw1 (okWipe_wiped hw)
      obtain ⟨m1, m2, m3⟩ := g2.held
      have g3 := g2.drop n3 hlkD
      have r3 : RsOk X.K c' F' H' σ (restoreE e1 (wipeE e2 vs) vs) (.ref D) (.new (.dict out)) := ⟨D, rfl, m2, ⟨n2, n3⟩, .dK m1 ra, m3⟩
      exact q _ F' H' (unlock_ok hk g3 h4) (s1.trans s') (unlock_rs hk g3 h4 r3)
  · cases h2
theorem je_dcompG {ti : TI} {pre : Pre} (h : ItOk X.K it ti pre) (hc : X.calm = true) (hN : X.N.Nodup) (hi : PI X tg iter ti) (ok : BlkOk X.N X.env.scope scope own)
    (hg : ∀ (s : Shared) (H : Hp) (C : Addr) (cl : List (Str × Addr)) (fp : List Addr), JG (X.blk s H scope (compEnvC scope cl C X.env) fp) tg ga ws) (ht : ∀ (s : Shared) (H : Hp) (C : Addr) (cl : List (Str × Addr)) (fp : List Addr), JTs (X.blk s H scope (compEnvC scope cl C X.env) fp) ifs t)
    (hk : ∀ (s : Shared) (H : Hp) (C : Addr) (cl : List (Str × Addr)) (fp : List Addr), JE (X.blk s H scope (compEnvC scope cl C X.env) fp) kx fk)
    (he : ∀ (s : Shared) (H : Hp) (C : Addr) (cl : List (Str × Addr)) (fp : List Addr), JE (X.blk s H scope (compEnvC scope cl C X.env) fp) vx fv) (hws : ∀ j ∈ ws, j ∈ own.map (·.2) := by decide) (hs : ∀ x, foldedSetIterable iter X.env x = pure x := by intro _; rfl) :
    PE X (.DictComp kx vx [⟨tg, iter, ifs, 0⟩] scope pos) (tEp X.K pre (eDComp it ga t fk fv (own.map (·.2)))) := (pe_dc hc hN hi.siz ok hg ht hk he hs).imp fun σ H Q w => dcomp_ok hws h w
theorem je_dcomp (hc : X.calm = true) (hN : X.N.Nodup) (hi : JI X tg iter it) (ok : BlkOk X.N X.env.scope scope own)
    (hg : ∀ (s : Shared) (H : Hp) (C : Addr) (cl : List (Str × Addr)) (fp : List Addr), JG (X.blk s H scope (compEnvC scope cl C X.env) fp) tg ga ws) (ht : ∀ (s : Shared) (H : Hp) (C : Addr) (cl : List (Str × Addr)) (fp : List Addr), JTs (X.blk s H scope (compEnvC scope cl C X.env) fp) ifs t)
    (hk : ∀ (s : Shared) (H : Hp) (C : Addr) (cl : List (Str × Addr)) (fp : List Addr), JE (X.blk s H scope (compEnvC scope cl C X.env) fp) kx fk)
    (he : ∀ (s : Shared) (H : Hp) (C : Addr) (cl : List (Str × Addr)) (fp : List Addr), JE (X.blk s H scope (compEnvC scope cl C X.env) fp) vx fv) (hws : ∀ j ∈ ws, j ∈ own.map (·.2) := by decide) (hs : ∀ x, foldedSetIterable iter X.env x = pure x := by intro _; rfl) :
    JE X (.DictComp kx vx [⟨tg, iter, ifs, 0⟩] scope pos) (eDComp it ga t fk fv (own.map (·.2))) := (je_dcompG (pre := fun _ _ _ _ _ => True) ItOk.std hc hN hi ok hg ht hk he hws hs).imp fun σ H Q w => tEp.of (fun _ _ _ _ _ => trivial) w
/-- name = {..} on one line, the name a local -/
theorem ps_setDc {i : Nat} {y : Str} {py spos : Pos} {wi : TI} {g : TG} {tt : TT} {tk tv : TE} (hc : X.calm = true) (hN : X.N.Nodup) (hy : X.N[i]? = some y) (hyl : X.env.scope.names.lookup y = some .local)
    (hsw : swapsWith (.DictComp kx vx [⟨tg, iter, ifs, 0⟩] scope pos) (some (.Name y py)) spos.line X.env = pure true) (hi : PI X tg iter wi) (ok : BlkOk X.N X.env.scope scope own)
    (hg : ∀ (s : Shared) (H : Hp) (C : Addr) (cl : List (Str × Addr)) (fp : List Addr), PG (X.blk s H scope (compEnvC scope cl C X.env) fp) tg g) (ht : ∀ (s : Shared) (H : Hp) (C : Addr) (cl : List (Str × Addr)) (fp : List Addr), PTs (X.blk s H scope (compEnvC scope cl C X.env) fp) ifs tt)
    (hk : ∀ (s : Shared) (H : Hp) (C : Addr) (cl : List (Str × Addr)) (fp : List Addr), PE (X.blk s H scope (compEnvC scope cl C X.env) fp) kx tk)
    (he : ∀ (s : Shared) (H : Hp) (C : Addr) (cl : List (Str × Addr)) (fp : List Addr), PE (X.blk s H scope (compEnvC scope cl C X.env) fp) vx tv) (hs : ∀ x, foldedSetIterable iter X.env x = pure x := by intro _; rfl) :
    PS X (.Assign [.Name y py] (.DictComp kx vx [⟨tg, iter, ifs, 0⟩] scope pos) spos) (tAsg (tDc wi g tt tk tv (own.map (·.2))) (gName i)) := by
  refine ⟨fun pins s σ H D I h => ?_⟩
  rw [exec_Assign_Name_used _ _ _ _ hsw]
  refine wpAny_bind (wpAny_standAt (wpAny_bind ?_))
  show wpAny _ X.A (do let _ ← comprehension (.DictComp kx vx [⟨tg, iter, ifs, 0⟩] scope pos) scope X.env (firstIterPos [⟨tg, iter, ifs, 0⟩] pos) newDict false (eval iter X.env) (some (assign (.Name y py) X.env))) _ _ s
  have h : tDc wi g tt tk tv (own.map (·.2)) σ H (fun x H1 => gName i x σ H1 D.nx) := h
  refine wpAny_bind (thn (dc_core (Qf := fun _ s' => SP X pins D .next s') hc hN I hi ok hg ht hk he hs h fun L C s' m H' I' q hn f => ?_) fun _ s' hq => wpAny_pure (wpAny_pure hq))
  show wpAny _ _ (assign (.Name y py) X.env (.ref L)) _ _ _
  refine wpAny_assign_Name (store_ok2 (v := V.ref L) I' hN hy (.inl hyl) rfl (fun s2 I2 ⟨a, sb, ha⟩ => ?_) (.inr hyl))
  obtain ⟨f0, f1, f2, f3, f4, f5⟩ := f
  have haC : C ≠ a := by
    rcases ha with z | z
    · rw [z]; exact f1
    · exact fun e => f4 y a z e.symm
  refine ⟨m, hn.sameBut sb haC, fun h3 sb3 => ?_⟩
  exact ⟨_, H', I2.turned (t' := s2.toks) (fun b o hb e => (sb3.2 b hb).trans e) f0 f1 f3 f4 f5, q⟩
theorem sw_trueD {gs : List Comprehension} {py : Pos} {y : Str} {l : Nat} {env : PySem.Env} (hk : env.scope.kind = .function) (hy : env.scope.names.lookup y = some .local) (hl : (py.line == pos.line) = true)
    (ha : (scope.names.any fun (n, k) => n == y && (k == .local || k == .cell)) = false) : swapsWith (.DictComp kx vx gs scope pos) (some (.Name y py)) l env = pure true := by
  have ky : env.kindOf y = some .local := hy
  have hb : env.blockKind = .function := by unfold Env.blockKind; rw [hk]; rfl
  unfold swapsWith
  simp only [hb, ky, ha, Expr.pos, hl]
  rfl
theorem js_setDCompG {ti : TI} {pre : Pre} (h : ItOk X.K it ti pre) {i : Nat} {y : Str} {py spos : Pos} (hc : X.calm = true) (hN : X.N.Nodup) (hi : PI X tg iter ti) (ok : BlkOk X.N X.env.scope scope own)
    (hg : ∀ (s : Shared) (H : Hp) (C : Addr) (cl : List (Str × Addr)) (fp : List Addr), JG (X.blk s H scope (compEnvC scope cl C X.env) fp) tg ga ws) (ht : ∀ (s : Shared) (H : Hp) (C : Addr) (cl : List (Str × Addr)) (fp : List Addr), JTs (X.blk s H scope (compEnvC scope cl C X.env) fp) ifs t)
    (hk : ∀ (s : Shared) (H : Hp) (C : Addr) (cl : List (Str × Addr)) (fp : List Addr), JE (X.blk s H scope (compEnvC scope cl C X.env) fp) kx fk)
    (he : ∀ (s : Shared) (H : Hp) (C : Addr) (cl : List (Str × Addr)) (fp : List Addr), JE (X.blk s H scope (compEnvC scope cl C X.env) fp) vx fv) (hws : ∀ j ∈ ws, j ∈ own.map (·.2) := by decide) (hs : ∀ x, foldedSetIterable iter X.env x = pure x := by intro _; rfl)
    (hy : X.N[i]? = some y := by rfl) (hyl : X.env.scope.names.lookup y = some .local := by rfl)
    (hsw : swapsWith (.DictComp kx vx [⟨tg, iter, ifs, 0⟩] scope pos) (some (.Name y py)) spos.line X.env = pure true := by exact sw_trueD rfl rfl rfl (by decide +kernel)) :
    PS X (.Assign [.Name y py] (.DictComp kx vx [⟨tg, iter, ifs, 0⟩] scope pos) spos) (tSp X.K pre (sAsg i (eDComp it ga t fk fv (own.map (·.2))))) := (ps_setDc hc hN hy hyl hsw hi.siz ok hg ht hk he hs).imp fun Dn σ H w => by
  obtain ⟨c, F, env, o, g, hpre, hf, q⟩ := w
  simp only [sAsg, bind, Option.bind_eq_some_iff, pure, Option.some.injEq] at hf
  obtain ⟨⟨r, e1⟩, h1, e2, h2, e⟩ := hf
  cases e
  refine dcomp_ok (Q := fun x H1 => gName i x σ H1 Dn.nx) hws h ⟨c, F, env, r, e1, g, hpre, h1, fun v F1 H1 g1 s1 r1 => ?_⟩
  obtain ⟨F2, g2, s2⟩ := store_okS g1 r1 h2
  exact q _ F2 H1 g2 (s1.trans s2)
theorem js_setDComp {i : Nat} {y : Str} {py spos : Pos} (hc : X.calm = true) (hN : X.N.Nodup) (hi : JI X tg iter it) (ok : BlkOk X.N X.env.scope scope own)
    (hg : ∀ (s : Shared) (H : Hp) (C : Addr) (cl : List (Str × Addr)) (fp : List Addr), JG (X.blk s H scope (compEnvC scope cl C X.env) fp) tg ga ws) (ht : ∀ (s : Shared) (H : Hp) (C : Addr) (cl : List (Str × Addr)) (fp : List Addr), JTs (X.blk s H scope (compEnvC scope cl C X.env) fp) ifs t)
    (hk : ∀ (s : Shared) (H : Hp) (C : Addr) (cl : List (Str × Addr)) (fp : List Addr), JE (X.blk s H scope (compEnvC scope cl C X.env) fp) kx fk)
    (he : ∀ (s : Shared) (H : Hp) (C : Addr) (cl : List (Str × Addr)) (fp : List Addr), JE (X.blk s H scope (compEnvC scope cl C X.env) fp) vx fv) (hws : ∀ j ∈ ws, j ∈ own.map (·.2) := by decide) (hs : ∀ x, foldedSetIterable iter X.env x = pure x := by intro _; rfl)
    (hy : X.N[i]? = some y := by rfl) (hyl : X.env.scope.names.lookup y = some .local := by rfl)
    (hsw : swapsWith (.DictComp kx vx [⟨tg, iter, ifs, 0⟩] scope pos) (some (.Name y py)) spos.line X.env = pure true := by exact sw_trueD rfl rfl rfl (by decide +kernel)) :
    JS X (.Assign [.Name y py] (.DictComp kx vx [⟨tg, iter, ifs, 0⟩] scope pos) spos) (sAsg i (eDComp it ga t fk fv (own.map (·.2)))) := (js_setDCompG (pre := fun _ _ _ _ _ => True) ItOk.std hc hN hi ok hg ht hk he hws hs hy hyl hsw).imp fun Dn σ H w => by
  obtain ⟨c, F, env, o, g, hf, q⟩ := w
  exact ⟨c, F, env, o, g, trivial, hf, q⟩
end
end Ev
set_option Elab.async false
set_option linter.all false
set_option maxRecDepth 100000
set_option maxHeartbeats 1000000
/-! Ev19: isinstance, min and max of two, sorted(dict), k in d as a test; the glue of defs, the law's own head. -/
namespace Ev
open PySem PySem.Spec PyProof.Rows L2

/-! ### isinstance(x, T) -/
def tyName : D → Option String
  | .none => some "NoneType"
  | .bool _ => some "bool"
  | .int _ => some "int"
  | .str _ => some "str"
  | .list _ => some "list"
  | .tuple _ => some "tuple"
  | .dict kvs => if kindOf kvs != 2 then some "dict" else none
def opIsa (T : String) (d : D) : Option Rs := match tyName d with
  | some n => (kitB n T).map fun b => .shr (.bool b)
  | none => none
section
variable {K : PySem.W.Frag} {F H : Hp}
theorem Obs.ty {v : V} {d : D} {n : String} (s : Sub F H) (h : Obs K F H v d) (e : tyName d = some n) : TyX K H v (.type n) := by
  cases d with
  | none => cases e; cases h.non; exact .base .non
  | bool b => cases e; cases h.bool; exact .base (.bl b)
  | int i => cases e; cases h.int; exact .base (.int i)
  | str x => cases e; cases h.str; exact .base (.str x)
  | list ds =>
    cases e
    obtain ⟨a, xs, rfl, q, _⟩ := h.list s
    rcases q with (q | ⟨o, q⟩) | ⟨its, n, q, _⟩
    · exact .base (.lst q)
    · exact .base (.frz q)
    · exact .kList q rfl
  | tuple ds =>
    cases e
    obtain ⟨a, xs, rfl, q, _⟩ := h.tuple s
    rcases q with (q | ⟨o, q⟩) | ⟨o, its, n, q, qc, _⟩
    · exact .base (.tup q)
    · exact .fTuple q
    · exact .kTuple q qc
  | dict kvs =>
    simp only [tyName] at e
    split at e
    · rename_i hk
      cases e
      rcases h.dict s with ⟨a, kv, rfl, q, _⟩ | ⟨a, kv, rfl, n, q, r⟩
      · rcases q with q | ⟨o, q⟩
        · exact .base (.dK q)
        · exact .fDict q
      · simp [r.kind n] at hk
    · cases e
end
section
variable {X : Cx} {a : Expr} {fa : E} {x T : Str} {p p2 pos : Pos}
theorem je_isa (tn : String) (B : Bl X.mg) (ha : JE X a fa) (hT : X.mg T = none) (hv : bootBuiltins T = some (.type tn)) (hg : Gl X "isinstance" := by rfl) (hgT : Gl X T := by rfl) (hnT : T ≠ "__name__" := by decide) (hdT : (T == ("__debug__" : Str)) = false := by decide)
    (he : starEach [a, .Name T p2] X.env = (false, eval a X.env) :: starEach [.Name T p2] X.env := by rfl) (he2 : starEach [.Name T p2] X.env = (false, eval (.Name T p2) X.env) :: starEach [] X.env := by rfl) (hpl : (backTo pos (starEach [.Name T p2] X.env)).any (·.1) = false := by rfl) :
    JE X (.Call (.Name "isinstance" p) [a, .Name T p2] [] pos) (eUn (opIsa tn) fa) :=
  (pe_callB call_isi hg B.isinstance boot_isinstance (pa_cons ha (pa_cons (pe_bltn hgT hT hv (v := .ty tn) rfl hnT hdT) pa_nil he2) he) (by decide) (by decide) he hpl).imp fun σ H Q w => by
    obtain ⟨c, F, env, res, env', g, hf, q⟩ := w
    simp only [eUn, bind, Option.bind_eq_some_iff, pure, Option.some.injEq] at hf
    obtain ⟨⟨ra, e1⟩, ha, d, hd, r', hr, e⟩ := hf
    cases e
    refine ⟨c, F, env, ra, _, g, ha, fun v F1 H1 g1 s1 r1 => ?_⟩
    have ox := look_ok g1 r1 hd
    unfold opIsa at hr
    split at hr
    · rename_i n hn
      obtain ⟨b, hb, e⟩ := Option.map_eq_some_iff.mp hr
      subst e
      exact ⟨v, .ty tn, _, _, b, rfl, .ty tn, ox.ty g1.sub hn, kit_ty hb, q _ F1 H1 g1 s1 (.bl b)⟩
    · cases hr
end

/-! ### min, max of two -/
def opMin2 : D → D → Option Rs
  | .int i, .int j => some (.shr (.int (if j < i then j else i)))
  | _, _ => none
def opMax2 : D → D → Option Rs
  | .int i, .int j => some (.shr (.int (if j > i then j else i)))
  | _, _ => none
section
variable {X : Cx} {a b : Expr} {fa fb : E} {p pos : Pos}
theorem ok_min2 {K : PySem.W.Frag} : OpOk K (fun x y H Q => ∃ i j, [x, y] = [V.int i, .int j] ∧ Q (.int (if j < i then j else i)) H) opMin2 := by
  intro c F H σ env x y da db res g ox oy h Q q
  unfold opMin2 at h
  split at h
  · cases h; cases ox.int; cases oy.int; exact ⟨_, _, rfl, shrOk g (.int _) q⟩
  · cases h
theorem ok_max2 {K : PySem.W.Frag} : OpOk K (fun x y H Q => ∃ i j, [x, y] = [V.int i, .int j] ∧ Q (.int (if j > i then j else i)) H) opMax2 := by
  intro c F H σ env x y da db res g ox oy h Q q
  unfold opMax2 at h
  split at h
  · cases h; cases ox.int; cases oy.int; exact ⟨_, _, rfl, shrOk g (.int _) q⟩
  · cases h
theorem je_min2 (hc : X.calm = true) (B : Bl X.mg) (ha : JE X a fa) (hb : JE X b fb) (hg : Gl X "min" := by rfl)
    (he : starEach [a, b] X.env = (false, eval a X.env) :: starEach [b] X.env := by rfl) (he2 : starEach [b] X.env = (false, eval b X.env) :: starEach [] X.env := by rfl) (hpl : (backTo pos (starEach [b] X.env)).any (·.1) = false := by rfl) :
    JE X (.Call (.Name "min" p) [a, b] [] pos) (eBin opMin2 fa fb) :=
  (pe_callB (call_min2 hc) hg B.min boot_min (pa_cons ha (pa_cons hb pa_nil he2) he) (by decide) (by decide) he hpl).imp fun σ H Q w => bin_ok (X := X) ok_min2 w
theorem je_max2 (hc : X.calm = true) (B : Bl X.mg) (ha : JE X a fa) (hb : JE X b fb) (hg : Gl X "max" := by rfl)
    (he : starEach [a, b] X.env = (false, eval a X.env) :: starEach [b] X.env := by rfl) (he2 : starEach [b] X.env = (false, eval b X.env) :: starEach [] X.env := by rfl) (hpl : (backTo pos (starEach [b] X.env)).any (·.1) = false := by rfl) :
    JE X (.Call (.Name "max" p) [a, b] [] pos) (eBin opMax2 fa fb) :=
  (pe_callB (call_max2 hc) hg B.max boot_max (pa_cons ha (pa_cons hb pa_nil he2) he) (by decide) (by decide) he hpl).imp fun σ H Q w => bin_ok (X := X) ok_max2 w
end

/-! ### k in d, as a test -/
section
variable {X : Cx} {a b : Expr} {fa fb : E} {pos : Pos}
theorem cmp_test {op : CmpOp} {r : R2} (ho : OpR X (compareOp op) r) (ha : JE X a fa) (hb : JE X b fb) (hm : behindInMarks op b = false) : PT X (.Compare a [op] [b] pos) (fun σ H Q => tOp r (tE X.K fa) (tE X.K fb) σ H fun x H' => ∃ k, x = .bl k ∧ Q k H') := pt_cmpR ho ha hb hm
theorem jt_in (hu : Rm X) (ha : JE X a fa) (hb : JE X b fb) (hm : behindInMarks .In b = false := by rfl) : JT X (.Compare a [.In] [b] pos) (asT (eIn false fa fb)) := by
  obtain ⟨r, h1, h2⟩ := (cr_in hu).ex
  exact ((cmp_test h1 ha hb hm).or (cmp_test (op_din (by unfold Rm at hu; omega)) ha hb hm)).imp fun σ H Q w => (eIn_ok (asT_ok w)).imp (fun w => bin_ok h2 w) fun ⟨c, F, env, r, e', g, h1, q⟩ => ⟨c, F, env, r, e', g, h1, fun v F' H' g' s' r' =>
    let ⟨c2, F2, en2, r2, e2, g2, h2, q2⟩ := q v F' H' g' s' r'
    ⟨c2, F2, en2, r2, e2, g2, h2, fun v2 F3 H3 g3 s3 r3 => let ⟨a, o, z1, z2, z3⟩ := q2 v2 F3 H3 g3 s3 r3; ⟨a, o, z1, z2, by simpa using z3⟩⟩⟩
theorem jt_nin (hu : Rm X) (ha : JE X a fa) (hb : JE X b fb) (hm : behindInMarks .NotIn b = false := by rfl) : JT X (.Compare a [.NotIn] [b] pos) (asT (eIn true fa fb)) := by
  obtain ⟨r, h1, h2⟩ := (cr_nin hu).ex
  exact ((cmp_test h1 ha hb hm).or (cmp_test (op_dnin (by unfold Rm at hu; omega)) ha hb hm)).imp fun σ H Q w => (eIn_ok (asT_ok w)).imp (fun w => bin_ok h2 w) fun ⟨c, F, env, r, e', g, h1, q⟩ => ⟨c, F, env, r, e', g, h1, fun v F' H' g' s' r' =>
    let ⟨c2, F2, en2, r2, e2, g2, h2, q2⟩ := q v F' H' g' s' r'
    ⟨c2, F2, en2, r2, e2, g2, h2, fun v2 F3 H3 g3 s3 r3 => let ⟨a, o, z1, z2, z3⟩ := q2 v2 F3 H3 g3 s3 r3; ⟨a, o, z1, z2, by simpa using z3⟩⟩⟩
end

/-! ### sorted(d) of texts -/
def strKs : List (D × D) → Option (List Str)
  | [] => some []
  | (.str x, _) :: r => (strKs r).map (x :: ·)
  | _ => none
theorem strKs_ok {K : PySem.W.Frag} {F : Hp} : ∀ {kvs : List (Key × V)} {ds : List (D × D)} {ks : List Str}, RpK K F kvs ds → strKs ds = some ks → kvs.map (·.1) = ks.map Sum.inr ∧ keysD ds = ks.map .str
  | _, _, ks, .nil, h => by cases h; exact ⟨rfl, rfl⟩
  | _, _, ks, .cons (k := k) r t, h => by
    cases k with
    | inl i => cases h
    | inr x =>
      simp only [kD, strKs] at h
      obtain ⟨ks', h1, e⟩ := Option.map_eq_some_iff.mp h
      subst e
      obtain ⟨e1, e2⟩ := strKs_ok t h1
      exact ⟨by simp [e1], by unfold keysD at e2 ⊢; simp [kD, e2]⟩
def leS (a b : Str) : Bool := decide (a.cps.toList ≤ b.cps.toList)
theorem dSort_strs (ks : List Str) : dSort (ks.map .str) = (ks.mergeSort leS).map .str := by
  rw [dSort_merge, List.map_mergeSort]
  intro a _ b _
  exact (congrFun (congrFun (PySem.W.dataLe_str (fun x : Str => x)) a) b).symm
/-! two sorted rows of the same texts are one -/
theorem str_ext {a b : Str} (h : a.cps.toList = b.cps.toList) : a = b := by
  cases a with | mk a => cases b with | mk b => cases a; cases b; cases h; rfl
theorem leS_of {a b : Str} (h : ltCps b.cps.toList a.cps.toList = false) : a.cps.toList ≤ b.cps.toList := by
  rw [ltCps_eq] at h
  exact List.not_lt.mp (of_decide_eq_false h)
theorem rising_all : ∀ {r : List Str} {p : Str}, risingS p r = true → (∀ x ∈ r, p.cps.toList ≤ x.cps.toList) ∧ r.Pairwise fun a b => a.cps.toList ≤ b.cps.toList
  | [], _, _ => ⟨by simp, .nil⟩
  | x :: r, p, h => by
    simp only [risingS, Bool.and_eq_true, Bool.not_eq_true'] at h
    obtain ⟨h1, h2⟩ := rising_all h.2
    have hx := leS_of h.1
    refine ⟨fun y hy => ?_, .cons h1 h2⟩
    rcases List.mem_cons.mp hy with e | e
    · subst e; exact hx
    · exact List.le_trans hx (h1 y e)
theorem sortedS_pw {l : List Str} (h : sortedS l = true) : l.Pairwise fun a b => a.cps.toList ≤ b.cps.toList := by
  cases l with
  | nil => exact .nil
  | cons x r => exact .cons (rising_all h).1 (rising_all h).2
theorem sorted_uniq {ks ys : List Str} (hp : ys.Perm ks) (hs : sortedS ys = true) : ys = ks.mergeSort leS := by
  have h2 : (ks.mergeSort leS).Pairwise fun a b => a.cps.toList ≤ b.cps.toList := by
    have := List.pairwise_mergeSort (le := leS) (fun a b c h1 h2 => by
      simp only [leS, decide_eq_true_eq] at h1 h2 ⊢; exact List.le_trans h1 h2) (fun a b => by
      simp only [leS, Bool.or_eq_true, decide_eq_true_eq]; exact List.le_total _ _) ks
    exact this.imp fun h => by simpa only [leS, decide_eq_true_eq] using h
  exact List.Perm.eq_of_pairwise (fun a b _ _ h1 h2 => str_ext (List.le_antisymm h1 h2)) (sortedS_pw hs) h2 (hp.trans (List.mergeSort_perm ks leS).symm)
def intKs : List (D × D) → Option (List Int)
  | [] => some []
  | (.int x, _) :: r => (intKs r).map (x :: ·)
  | _ => none
theorem intKs_ok {K : PySem.W.Frag} {F : Hp} : ∀ {kvs : List (Key × V)} {ds : List (D × D)} {ks : List Int}, RpK K F kvs ds → intKs ds = some ks → kvs.map (·.1) = ks.map Sum.inl ∧ keysD ds = ks.map .int
  | _, _, ks, .nil, h => by cases h; exact ⟨rfl, rfl⟩
  | _, _, ks, .cons (k := k) r t, h => by
    cases k with
    | inr i => cases h
    | inl x =>
      simp only [kD, intKs] at h
      obtain ⟨ks', h1, e⟩ := Option.map_eq_some_iff.mp h
      subst e
      obtain ⟨e1, e2⟩ := intKs_ok t h1
      exact ⟨by simp [e1], by unfold keysD at e2 ⊢; simp [kD, e2]⟩
def leZ (a b : Int) : Bool := decide (a ≤ b)
theorem dSort_ints (ks : List Int) : dSort (ks.map .int) = (ks.mergeSort leZ).map .int := by
  rw [dSort_merge, List.map_mergeSort]
  intro a _ b _
  exact (congrFun (congrFun (PySem.W.dataLe_int (fun x : Int => x)) a) b).symm
theorem sorted_uniqZ {ks ys : List Int} (hp : ys.Perm ks) (hs : ys.Pairwise (· ≤ ·)) : ys = ks.mergeSort leZ := by
  have h2 : (ks.mergeSort leZ).Pairwise (· ≤ ·) := by
    have := List.pairwise_mergeSort (le := leZ) (fun a b c h1 h2 => by
      simp only [leZ, decide_eq_true_eq] at h1 h2 ⊢; omega) (fun a b => by
      simp only [leZ, Bool.or_eq_true, decide_eq_true_eq]; omega) ks
    exact this.imp fun h => by simpa only [leZ, decide_eq_true_eq] using h
  exact List.Perm.eq_of_pairwise (fun a b _ _ h1 h2 => by omega) hs h2 (hp.trans (List.mergeSort_perm ks leZ).symm)
def opSortedD : D → Option Rs
  | .dict kvs => match strKs kvs with
    | some ks => if ks.length < 64 then some (.new (.list (dSort (keysD kvs)))) else none
    | none => match intKs kvs with
      | some ks => if ks.length < 64 then some (.new (.list (dSort (keysD kvs)))) else none
      | none => none
  | d => opSorted d
def rSortDS : List V → Hp → VK → Prop := fun xs H Q => ∃ (a : Addr) (kvs : List (Key × V)) (ks : List Str), xs = [.ref a] ∧ Rd H a (.dK kvs) ∧ kvs.map (·.1) = ks.map Sum.inr ∧ ks.length < 64 ∧
    ∀ ys p, ys.Perm ks → sortedS ys = true → H p = none → Q (.ref p) (upd H p (.lst (ys.map V.str)))
def rSortDZ : List V → Hp → VK → Prop := fun xs H Q => ∃ (a : Addr) (kvs : List (Key × V)) (ks : List Int), xs = [.ref a] ∧ Rd H a (.dK kvs) ∧ kvs.map (·.1) = ks.map Sum.inl ∧ ks.length < 64 ∧
    ∀ (ys : List Int) (p : Addr), ys.Perm ks → ys.Pairwise (· ≤ ·) → H p = none → Q (.ref p) (upd H p (.lst (ys.map V.int)))
theorem ok_sortedD {K : PySem.W.Frag} : UnOk K (fun xs H Q => rSortP K xs H Q ∨ rSortDS xs H Q ∨ rSortDZ xs H Q) opSortedD := by
  intro c F H σ env x d res g ox h Q q
  unfold opSortedD at h
  split at h
  · rename_i kvs
    split at h
    · rename_i ks hks
      split at h
      · rename_i hl
        cases h
        rcases ox.dict g.sub with ⟨a, kv, rfl, e, r⟩ | ⟨a, kv, rfl, n, e, r⟩
        · obtain ⟨e1, e2⟩ := strKs_ok r hks
          refine .inr (.inl ⟨a, kv, ks, rfl, e, e1, hl, fun ys p hp hs hn => ?_⟩)
          have hy := sorted_uniq hp hs
          have rp : RpA K F (ys.map V.str) (dSort (keysD kvs)) := by
            rw [e2, dSort_strs, hy]
            generalize ks.mergeSort leS = zs
            induction zs with
            | nil => exact .nil
            | cons z zs ih => exact .cons (.str z) ih
          obtain ⟨g', rr⟩ := g.laidNew hn (.lst upd_same rp)
          exact q _ _ _ g' (Same.refl F) rr
        · cases r with
          | nil => exact absurd rfl n
          | cons _ _ => cases hks
      · cases h
    · split at h
      · rename_i ks hks
        split at h
        · rename_i hl
          cases h
          rcases ox.dict g.sub with ⟨a, kv, rfl, e, r⟩ | ⟨a, kv, rfl, n, e, r⟩
          · obtain ⟨e1, e2⟩ := intKs_ok r hks
            refine .inr (.inr ⟨a, kv, ks, rfl, e, e1, hl, fun ys p hp hs hn => ?_⟩)
            have hy := sorted_uniqZ hp hs
            have rp : RpA K F (ys.map V.int) (dSort (keysD kvs)) := by
              rw [e2, dSort_ints, hy]
              generalize ks.mergeSort leZ = zs
              induction zs with
              | nil => exact .nil
              | cons z zs ih => exact .cons (.int z) ih
            obtain ⟨g', rr⟩ := g.laidNew hn (.lst upd_same rp)
            exact q _ _ _ g' (Same.refl F) rr
          · cases r with
            | nil => exact absurd rfl n
            | cons _ _ => cases hks
        · cases h
      · cases h
  · exact .inl (ok_sorted c F H σ env x d res g ox h Q q)
theorem cr_sortedD' {X : Cx} (hu : Rm X) (hc : X.calm = true) : CallR X (.builtin "sorted") (fun xs H Q => rSortP X.K xs H Q ∨ rSortDS xs H Q ∨ rSortDZ xs H Q) := (cr_sortP hu).or ((call_sortedD hc).or (call_sortedDI hc))
end Ev
set_option Elab.async false
set_option linter.all false
set_option maxRecDepth 100000
set_option maxHeartbeats 1000000
/-! Ev20: a def by its body's evaluator; the law's own head. -/
namespace Ev
open PySem PySem.Spec PyProof.Rows L2

/-- a def that can be called by its name -/
structure DefOk (K : PySem.W.Frag) (mg : Str → Option Value) (x : Str) (st : Stmt) (ps : List Str) : Prop where
  ex : ∃ (f : Addr) (fd : FuncData), C8.Def K mg x st f fd ∧ ∀ us : List Value, us.length = ps.length → bindArgs fd ⟨us, []⟩ = pure (ps.zip us)
section
variable {P : Program} {w : World} {K : PySem.W.Frag} {mg : Str → Option Value} {base : Heap}
theorem def_mk {x : Str} {st : Stmt} {ps : List Str} {f : Addr} {oc : Value} {od an : Option Addr} {osl : Array (Option Value)} {kV doc pm cdv ct : Value}
    (l : K.lookup f = some ⟨oc, od, .func (PySem.W.fnOf x x (C8.fnArgs st) (C8.fnBody st) (C8.fnScope st) .none kV doc pm an cdv ct), osl⟩) (c : PySem.W.codeIn K cdv x = true) (k : PySem.W.keepIn K (.ref f) = true) (m : mg x = some (.ref f))
    (h : ∀ us : List Value, us.length = ps.length → bindArgs (PySem.W.fnOf x x (C8.fnArgs st) (C8.fnBody st) (C8.fnScope st) .none kV doc pm an cdv ct) ⟨us, []⟩ = pure (ps.zip us)) : DefOk K mg x st ps :=
  ⟨f, _, ⟨⟨oc, od, .none, kV, doc, pm, an, cdv, ct, osl, rfl, l, c⟩, m, k⟩, h⟩
theorem roomRm {k : Nat} {A : Around} (r : Room k A) : A.units + 150 < cLine := by have := r.un; omega
theorem fnF_len {n N : Nat} {f : S} {ds : List D} {r : Rs × List D} (h : fnF n N f ds = some r) : ds.length = n := by
  unfold fnF at h
  split at h
  · assumption
  · cases h
theorem fnW_len {n N : Nat} {f : S} {ds : List D} {r : Rs × List D} (h : fnW n N f ds = some r) : ds.length = n := by
  cases ds with
  | nil => simp [fnW] at h
  | cons d ds =>
    cases d <;> simp only [fnW] at h <;> try cases h
    split at h
    · rename_i e; rw [List.length_cons]; exact e
    · cases h
/-- the facts of a def's body, whatever the state -/
abbrev BodyOk (P : Program) (w : World) (K : PySem.W.Frag) (mg : Str → Option Value) (base : Heap) (k : Nat) (x : Str) (st : Stmt) (N : List Str) (f : S) : Prop :=
  ∀ (g : Addr) (cdv : Value) (A : Around) (outer : List PySem.Env) (s : Shared) (H : Hp) (E : XK), Room k (A.deeper (envOfC x (C8.fnScope st) s.heap.objs.size g cdv)) → JSs (cxOf C8.CX0 P w K mg base N x (C8.fnScope st) g cdv A outer s H E).nox (C8.fnBody st) f
theorem calF {x : Str} {st : Stmt} {ps N : List Str} {k : Nat} {f : S} (D : DefOk K mg x st ps) (S : FnScope N ps (C8.fnScope st)) (hb : BodyOk P w K mg base k x st N f) (hn : ps.length ≤ N.length := by decide) :
    C8.Cal P w K mg base (k + 1) x (spF K (fnF ps.length N.length f)) [] := by
  obtain ⟨fa, fd, Dd, b⟩ := D.ex
  refine C8.cal0 Dd (.all b) .nil S (fun vs H Q E h => ?_) fun cdv A outer s H vs Q E hr h => ⟨_, hb fa cdv A outer s H E hr, body_F hn h⟩
  obtain ⟨F, ds, r, w', _, _, rv, hf, _⟩ := h
  rw [rv.length]; exact fnF_len hf
theorem calW {x : Str} {st : Stmt} {ps N : List Str} {k : Nat} {f : S} (D : DefOk K mg x st ps) (S : FnScope N ps (C8.fnScope st)) (hb : BodyOk P w K mg base k x st N f) (hn : ps.length ≤ N.length := by decide) :
    C8.Cal P w K mg base (k + 1) x (spW K (fnW ps.length N.length f)) [] := by
  obtain ⟨fa, fd, Dd, b⟩ := D.ex
  refine C8.cal0 Dd (.all b) .nil S (fun vs H Q E h => ?_) fun cdv A outer s H vs Q E hr h => ⟨_, hb fa cdv A outer s H E hr, body_W hn h⟩
  obtain ⟨F, a, xs, ds0, vs', ds, r, w', rfl, _, _, _, _, _, rv, hf, _⟩ := h
  have := fnW_len hf
  rw [List.length_cons] at this ⊢
  rw [rv.length]; exact this
/-- the promise, for data that are answered -/
theorem Cal.impF {x : Str} {k : Nat} {f g : Fd} (c : C8.Cal P w K mg base k x (spF K f) []) (h : ∀ ds r, g ds = some r → f ds = some r) : C8.Cal P w K mg base k x (spF K g) [] := by
  obtain ⟨fa, fd, ps, ds, F, h1, h2, h3, h4⟩ := c.ex
  exact ⟨fa, fd, ps, ds, F.imp fun vs H Q E ⟨F0, ds, r, w', q1, t, q2, q3, q4⟩ => ⟨F0, ds, r, w', q1, t, q2, h _ _ q3, q4⟩, h1, h2, h3, h4⟩
theorem Cal.impW {x : Str} {k : Nat} {f g : Fd} (c : C8.Cal P w K mg base k x (spW K f) []) (h : ∀ ds r, g ds = some r → f ds = some r) : C8.Cal P w K mg base k x (spW K g) [] := by
  obtain ⟨fa, fd, ps, ds, F, h1, h2, h3, h4⟩ := c.ex
  exact ⟨fa, fd, ps, ds, F.imp fun vs H Q E ⟨F0, a, xs, d0, vs', ds, r, w', q1, q2, t, q3, q4, q5, q6, q7, q8⟩ => ⟨F0, a, xs, d0, vs', ds, r, w', q1, q2, t, q3, q4, q5, q6, h _ _ q7, q8⟩, h1, h2, h3, h4⟩
theorem Cal.mono {x : Str} {k j : Nat} {sp : Sp} (c : C8.Cal P w K mg base k x sp []) (h : k ≤ j) : C8.Cal P w K mg base j x sp [] := by
  obtain ⟨fa, fd, ps, ds, F, h1, h2, h3, h4⟩ := c.ex
  exact ⟨fa, fd, ps, ds, F.mono h, h1, h2, h3, h4⟩
end

/-! ### the law -/
/-- the script, as a datum -/
def scrD (ns : List Int) : D := .list (ns.map .int)
theorem scr_rp {K : PySem.W.Frag} {F : Hp} : ∀ ns : List Int, RpA K F (ns.map V.int) (ns.map .int)
  | [] => .nil
  | n :: ns => .cons (.int n) (scr_rp ns)
def unf (H : Hp) : Hp := fun b => match H b with
  | some (.frz _ (.lst xs)) => some (.lst xs)
  | _ => none
theorem frz_only {H : Hp} (h : Only H) : Sub (unf H) H := fun b o e => by
  unfold unf at e
  rcases h b with q | ⟨ob, xs, q⟩
  · rw [q] at e; cases e
  · rw [q] at e
    cases e
    exact .inr ⟨trivial, ob, q⟩
theorem frz_onlyT {H : Hp} (h : Only H) : Tf (unf H) H := fun b xs e => by
  rcases h b with q | ⟨ob, ys, q⟩ <;> (rw [q] at e; cases e)
def LawEv (f : Fd) : Prop := ∀ ns : List Int, ns.length ≤ 63 → (∀ z ∈ ns, Builtin.Int.intBits z ≤ 1048576) → ∃ w, f [scrD ns] = some (.shr (.bool true), w)
theorem law_sp {K : PySem.W.Frag} {f : Fd} (hf : LawEv f) {H : Hp} {a : Addr} {ns : List Int} (h63 : ns.length ≤ 63) (hb : ∀ z ∈ ns, Builtin.Int.intBits z ≤ 1048576) (hO : Only H) (hS : LR K H a (ns.map V.int)) :
    spF K f [.ref a] H (fun v _ => v = .bl true) fun _ _ _ => False := by
  obtain ⟨w, hw⟩ := hf ns h63 hb
  refine ⟨_, _, _, w, frz_only hO, frz_onlyT hO, .cons (.lst ?_ (scr_rp ns)) .nil, hw, fun v F' H' en ro => ?_⟩
  · rcases hS with (q | ⟨ob, q⟩) | q
    · rcases hO a with z | ⟨ob, xs, z⟩ <;> (rw [q] at z; cases z)
    · exact .inl (.inl (by unfold unf; rw [q]))
    · exact .inr q
  · cases ro; rfl
theorem law_fn {P : Program} {w : World} {K : PySem.W.Frag} {mg : Str → Option Value} {x y : Str} {st : Stmt} {N : List Str} {k : Nat} {f : S} {fa : Addr} (D : DefOk K mg y st [x]) (S : FnScope N [x] (C8.fnScope st)) (hfa : mg y = some (.ref fa))
    (hb : ∀ base : Heap, BodyOk P w K mg base k y st N f) (hn : 1 ≤ N.length := by decide) :
    ∃ fd : FuncData, (∀ (s : Shared) (u : Value), BindsTo s fd ⟨[u], []⟩ [(x, u)]) ∧ ∀ base : Heap, FnOk P w K mg base C8.CX0 (k + 1) fa fd [x] (spF K (fnF 1 N.length f)) := by
  obtain ⟨f', fd, Dd, b⟩ := D.ex
  have e := Dd.mgf.symm.trans hfa
  cases e
  refine ⟨fd, fun s u => .of_eq (b [u] rfl), fun base => C8.fn0 Dd.fn S (fun vs H Q E h => ?_) fun cdv A outer s H vs Q E hr h => ⟨_, hb base _ cdv A outer s H E hr, body_F hn h⟩⟩
  obtain ⟨F, ds, r, w', _, _, rv, hf, _⟩ := h
  rw [rv.length]; exact fnF_len hf
/-- THE HEAD -/
theorem walk_ofE {l : PySem.W.OpenLaw} {k : Nat} {q : Program} {loose : List Str} {XP : (Str → Option Value) → Heap → Prop} {YP : World → Heap → Prop} {d : DefRec} {K : Params → PySem.W.Frag} {f : Fd} {x : Str}
    (hn : l.most = some 63) (hdf : d.params.defaults = []) (hr : Room k callerA) (hY : ∀ (w : World) (h : Heap), YP w h → (K w.params).In h) (hf : LawEv f)
    (F : ∀ (w : World) (mg : Str → Option Value) (fa : Addr) (h : Heap), (K w.params).In h → h.Ns mainGlobals mg → mg d.name = some (.ref fa) →
      ∃ fd : FuncData, (∀ (s : Shared) (u : Value), BindsTo s fd ⟨[u], []⟩ [(x, u)]) ∧
        ∀ base : Heap, (K w.params).In base → base.Ns mainGlobals mg → FnOk l.prog w (K w.params) mg base C8.CX0 k fa fd [x] (spF (K w.params) f)) :
    PySem.W.WalkO q loose XP YP l.row.toRowW d [] (fun f vs => PySem.call f vs) := by
  refine Att.attach_callB hn hdf fun w s₀ s₁ mg mb fa o pm cd doc a vs ns G Y ho hd hcd hmg hobj hints hlen hbits hg => ?_
  have KX := hY w _ Y
  obtain ⟨fd, hb, hF⟩ := F w mg fa _ KX G.T.g hmg
  refine law_call KX G.T.g G.T.b G.T.builtins G.T.nolimit hg hobj hints (Nat.le_trans hlen (by rw [sizeLine_eq]; omega)) hr hF hb (fun H hO hS => law_sp hf hlen hbits hO ?_) fun H e s' z => z.elim
  rcases hS with q | ⟨ob, its, n, h1, h2, h3, h4, h5, h6⟩
  · exact .inl q
  · have e := KX _ _ h1
    rw [hobj] at e
    cases e
    exact .inr ⟨vs, _, h1, vals_ints hints, by rw [← hints.length] at hlen; rw [sizeLine_eq]; omega⟩
end Ev
set_option Elab.async false
set_option linter.all false
set_option maxRecDepth 100000
set_option maxHeartbeats 1000000
/-! Ev21: a < b < c < d; xs.index(x); a def that calls itself. -/
namespace Ev
open PySem PySem.Spec PyProof.Rows L2

def eCh3 (o1 o2 o3 : D → D → Option Rs) (fa fb fc fd : E) : E := fun e => do
  let (ra, e1) ← fa e
  let (rb, e2) ← fb e1
  let da ← look (settle ra) e2
  let db ← look rb e2
  match o1 da db with
  | some (.shr (.bool true)) => do
    let (rc, e3) ← fc e2
    let db' ← look (settle rb) e3
    let dc ← look rc e3
    match o2 db' dc with
    | some (.shr (.bool true)) => do
      let (rd, e4) ← fd e3
      let dc' ← look (settle rc) e4
      let dd ← look rd e4
      let r ← o3 dc' dd
      pure (r, e4)
    | some (.shr (.bool false)) => pure (.shr (.bool false), e3)
    | _ => none
  | some (.shr (.bool false)) => pure (.shr (.bool false), e2)
  | _ => none
def tChain3 (r1 r2 r3 : R2) (ta tb tc td : TE) : TE := fun σ H Q => ta σ H fun x H1 => tb σ H1 fun y H2 => r1 x y H2 fun z H3 => ∃ k, z = .bl k ∧
  (if k = true then tc σ H3 fun w' H4 => r2 y w' H4 fun z H5 => ∃ k, z = .bl k ∧ (if k = true then td σ H5 fun u H6 => r3 w' u H6 Q else Q (.bl false) H5) else Q (.bl false) H3)
section
variable {X : Cx} {a b c d : Expr} {ta tb tc td : TE} {fa fb fc fd : E} {pos : Pos}
theorem pe_chain3 {o1 o2 o3 : CmpOp} {r1 r2 r3 : R2} (h1 : OpR X (compareOp o1) r1) (h2 : OpR X (compareOp o2) r2) (h3 : OpR X (compareOp o3) r3) (ha : PE X a ta) (hb : PE X b tb) (hc : PE X c tc) (hd : PE X d td)
    (hm : lastMarks [o1, o2, o3] [b, c, d] = false := by with_unfolding_all rfl) : PE X (.Compare a [o1, o2, o3] [b, c, d] pos) (tChain3 r1 r2 r3 ta tb tc td) := by
  refine ⟨fun pins s σ H Q I h => ?_⟩
  refine Compare_chain (thn (ha.run pins s σ H _ I h) fun v s1 ⟨x, H1, I1, q1, w1⟩ => chain_link (thn (hb.run pins s1 σ H1 _ I1 w1) fun u s2 ⟨y, H2, I2, q2, w2⟩ =>
    thn (h1 pins s2 σ H2 x y v u _ I2 q1 q2 w2) fun e s3 ⟨z, H3, I3, q3, k, e', w3⟩ => ?_)) hm
  subst e'
  cases q3
  refine wpAny_truthy_bool ?_
  cases k with
  | false => exact ite_ff ⟨.bl false, H3, I3, rfl, w3⟩
  | true =>
    refine ite_tt (chain_link (thn (hc.run pins s3 σ H3 _ I3 w3) fun v2 s4 ⟨y2, H4, I4, q4, w4⟩ => thn (h2 pins s4 σ H4 y y2 u v2 _ I4 q2 q4 w4) fun e s5 ⟨z, H5, I5, q5, k, e', w5⟩ => ?_))
    subst e'
    cases q5
    refine wpAny_truthy_bool ?_
    cases k with
    | false => exact ite_ff ⟨.bl false, H5, I5, rfl, w5⟩
    | true => exact ite_tt (chain_last (thn (hd.run pins s5 σ H5 _ I5 w5) fun v3 s6 ⟨y3, H6, I6, q6, w6⟩ => h3 pins s6 σ H6 y2 y3 v2 v3 Q I6 q4 q6 w6))
theorem pt_chain3 {o1 o2 o3 : CmpOp} {r1 r2 r3 : R2} (h1 : OpR X (compareOp o1) r1) (h2 : OpR X (compareOp o2) r2) (h3 : OpR X (compareOp o3) r3) (ha : PE X a ta) (hb : PE X b tb) (hc : PE X c tc) (hd : PE X d td)
    (hm : lastMarks [o1, o2, o3] [b, c, d] = false := by with_unfolding_all rfl) : PT X (.Compare a [o1, o2, o3] [b, c, d] pos) (tTest (tChain3 r1 r2 r3 ta tb tc td)) := by
  refine ⟨fun pins s σ H Q I h => ?_⟩
  refine isTrue_chain (thn (ha.run pins s σ H _ I h) fun v s1 ⟨x, H1, I1, q1, w1⟩ => test_link (thn (hb.run pins s1 σ H1 _ I1 w1) fun u s2 ⟨y, H2, I2, q2, w2⟩ =>
    thn (h1 pins s2 σ H2 x y v u _ I2 q1 q2 w2) fun e s3 ⟨z, H3, I3, q3, k, e', w3⟩ => ?_)) hm
  subst e'
  cases q3
  refine wpAny_truthy_bool ?_
  cases k with
  | false =>
    obtain ⟨k', e', q'⟩ := w3
    cases e'
    exact ite_ff ⟨H3, I3, q'⟩
  | true =>
    refine ite_tt (test_link (thn (hc.run pins s3 σ H3 _ I3 w3) fun v2 s4 ⟨y2, H4, I4, q4, w4⟩ => thn (h2 pins s4 σ H4 y y2 u v2 _ I4 q2 q4 w4) fun e s5 ⟨z, H5, I5, q5, k, e', w5⟩ => ?_))
    subst e'
    cases q5
    refine wpAny_truthy_bool ?_
    cases k with
    | false =>
      obtain ⟨k', e', q'⟩ := w5
      cases e'
      exact ite_ff ⟨H5, I5, q'⟩
    | true =>
      refine ite_tt (test_last (thn (hd.run pins s5 σ H5 _ I5 w5) fun v3 s6 ⟨y3, H6, I6, q6, w6⟩ => thn (h3 pins s6 σ H6 y2 y3 v2 v3 _ I6 q4 q6 w6) fun d' s7 ⟨z2, H7, I7, r7, k2, e2, q7⟩ => ?_))
      subst e2
      cases r7
      exact wpAny_truthy_bool ⟨H7, I7, q7⟩
theorem ch3_ok {r1 r2 r3 : R2} {o1 o2 o3 : D → D → Option Rs} (k1 : OpOk X.K r1 o1) (k2 : OpOk X.K r2 o2) (k3 : OpOk X.K r3 o3) {σ : L2.St} {H : Hp} {Q : VK} (w : tE X.K (eCh3 o1 o2 o3 fa fb fc fd) σ H Q) : tChain3 r1 r2 r3 (tE X.K fa) (tE X.K fb) (tE X.K fc) (tE X.K fd) σ H Q := by
  obtain ⟨c, F, env, res, env', g, hf, q⟩ := w
  simp only [eCh3, bind, Option.bind_eq_some_iff] at hf
  obtain ⟨⟨ra, e1⟩, ha, ⟨rb, e2⟩, hb, da, hda, db, hdb, hr⟩ := hf
  refine ⟨c, F, env, ra, e1, g, ha, fun x F1 H1 g1 s1 q1 => ?_⟩
  obtain ⟨F2, g2, s2, q2⟩ := settle_ok g1 q1
  refine ⟨c, F2, e1, rb, e2, g2, hb, fun y F3 H3 g3 s3 q3 => ?_⟩
  have lk : ∀ {F F' H : Hp} {σ : L2.St} {env : Env} {v : V} {r : Rs} {d : D}, G X.K c F' H σ env → RsOk X.K c F' H σ env v (settle r) → look r env = some d → Obs X.K F' H v d := fun {F F' H σ env v r d} g h l => by
    cases r with
    | shr d => exact look_ok (r := .shr d) g h l
    | new d => exact look_ok (r := .shr d) g h l
    | var i => exact look_ok (r := .var i) g h l
    | cst d => exact look_ok (r := .cst d) g h l
  obtain ⟨F3', g3', s3', q3'⟩ := settle_ok g3 q3
  have ob' : Obs X.K F3' H3 y db := lk (F := F3) g3' q3' hdb
  have oa : Obs X.K F3' H3 x da := look_ok g3' (q2.keep (settle_settled ra) (s3.trans s3')) hda
  have t3 := ((s1.trans s2).trans s3).trans s3'
  split at hr
  · rename_i ho
    simp only [Option.bind_eq_some_iff, pure, Option.some.injEq] at hr
    obtain ⟨⟨rc, e3⟩, hc, db', hdb', dc, hdc, hr⟩ := hr
    refine k1 c F3' H3 σ e2 x y da db _ g3' oa ob' ho _ fun v F4 H4 g4 s4 q4 => ?_
    cases q4
    refine ⟨true, rfl, iteT ?_⟩
    refine ⟨c, F4, e2, rc, e3, g4, hc, fun z F5 H5 g5 s5 q5 => ?_⟩
    obtain ⟨F6, g6, s6, q6⟩ := settle_ok g5 q5
    have oc : Obs X.K F6 H5 z dc := lk (F := F6) g6 q6 hdc
    have ob2 : Obs X.K F6 H5 y db' := look_ok g6 (q3'.keep (settle_settled rb) ((s4.trans s5).trans s6)) hdb'
    have t6 := ((t3.trans s4).trans s5).trans s6
    dsimp only at hr
    split at hr
    · rename_i ho2
      simp only [Option.bind_eq_some_iff, Option.some.injEq] at hr
      obtain ⟨⟨rd, e4⟩, hd, dc', hdc', dd, hdd, r0, hr0, e⟩ := hr
      cases e
      refine k2 c F6 H5 σ e3 y z db' dc _ g6 ob2 oc ho2 _ fun v F7 H7 g7 s7 q7 => ?_
      cases q7
      refine ⟨true, rfl, iteT ?_⟩
      refine ⟨c, F7, e3, rd, e4, g7, hd, fun u F8 H8 g8 s8 q8 => ?_⟩
      exact k3 c F8 H8 σ e4 z u dc' dd _ g8 (look_ok g8 (q6.keep (settle_settled rc) (s7.trans s8)) hdc') (look_ok g8 q8 hdd) hr0 Q fun v F9 H9 g9 s9 q9 => q v F9 H9 g9 (((t6.trans s7).trans s8).trans s9) q9
    · rename_i ho2
      cases hr
      refine k2 c F6 H5 σ _ y z db' dc _ g6 ob2 oc ho2 _ fun v F7 H7 g7 s7 q7 => ?_
      cases q7
      exact ⟨false, rfl, iteF (q _ F7 H7 g7 (t6.trans s7) (.bl _))⟩
    · cases hr
  · rename_i ho
    cases hr
    refine k1 c F3' H3 σ e2 x y da db _ g3' oa ob' ho _ fun v F4 H4 g4 s4 r4 => ?_
    cases r4
    exact ⟨false, rfl, iteF (q _ F4 H4 g4 (t3.trans s4) (.bl _))⟩
  · cases hr
theorem je_ch3 {c1 c2 c3 : CmpOp} {o1 o2 o3 : D → D → Option Rs} (h1 : CmpR X c1 o1) (h2 : CmpR X c2 o2) (h3 : CmpR X c3 o3) (ha : JE X a fa) (hb : JE X b fb) (hc : JE X c fc) (hd : JE X d fd) (hm : lastMarks [c1, c2, c3] [b, c, d] = false := by with_unfolding_all rfl) :
    JE X (.Compare a [c1, c2, c3] [b, c, d] pos) (eCh3 o1 o2 o3 fa fb fc fd) := by
  obtain ⟨r1, p1, k1⟩ := h1.ex
  obtain ⟨r2, p2, k2⟩ := h2.ex
  obtain ⟨r3, p3, k3⟩ := h3.ex
  exact (pe_chain3 p1 p2 p3 ha hb hc hd hm).imp fun σ H Q w => ch3_ok k1 k2 k3 w
theorem jt_ch3 {c1 c2 c3 : CmpOp} {o1 o2 o3 : D → D → Option Rs} (h1 : CmpR X c1 o1) (h2 : CmpR X c2 o2) (h3 : CmpR X c3 o3) (ha : JE X a fa) (hb : JE X b fb) (hc : JE X c fc) (hd : JE X d fd) (hm : lastMarks [c1, c2, c3] [b, c, d] = false := by with_unfolding_all rfl) :
    JT X (.Compare a [c1, c2, c3] [b, c, d] pos) (asT (eCh3 o1 o2 o3 fa fb fc fd)) := by
  obtain ⟨r1, p1, k1⟩ := h1.ex
  obtain ⟨r2, p2, k2⟩ := h2.ex
  obtain ⟨r3, p3, k3⟩ := h3.ex
  exact (pt_chain3 p1 p2 p3 ha hb hc hd hm).imp fun σ H Q w => ch3_ok k1 k2 k3 (asT_ok w)
end

/-! ### xs.index(x) -/
def eIdx (fo fx : E) : E := fun e => do
  let (ro, e1) ← fo e
  match look (settle ro) e1 with
  | some (.list _) => do
    let (rx, e2) ← fx e1
    let d ← look rx e2
    match look (settle ro) e2 with
    | some (.list ds) => if SeqAt.shaped (.list ds) && SeqAt.shaped d && inOk d ds then (SeqAt.dataPlace ds d).map fun j => (.shr (.int (j : Nat)), e2) else none
    | _ => none
  | _ => none
section
variable {X : Cx} {o e : Expr} {fo fx : E} {apos cpos : Pos}
theorem je_index (hu : Rm X) (ho : JE X o fo) (hx : JE X e fx)
    (hbase : attributeBase o "index" X.env (eval o X.env) = eval o X.env := by rfl)
    (hfew : ((backTo cpos (starEach [e] X.env)).all (fun x => !x.1) && (backToKw cpos (keywordEach [] X.env)).all (fun x => x.1.isSome)
      && decide (([e] : List Expr).length + ([] : List Keyword).length + (if ([] : List Keyword).isEmpty then 0 else 1) < 30)) = true := by rfl)
    (hline : (apos.endLine == cpos.line) = true := by rfl) (hs : starEach [e] X.env = (false, eval e X.env) :: starEach [] X.env := by rfl) (hplain : (backTo cpos (starEach [] X.env)).any (·.1) = false := by rfl) :
    JE X (.Call (.Attribute o "index" apos) [e] [] cpos) (eIdx fo fx) :=
  (pe_bm F.plainAttrs_list F.slot_list_index F.type_list_index (mt_indexD (by unfold Rm at hu; omega)) ho (pa_cons hx pa_nil hs) hbase hfew hline hs hplain).imp fun σ H Q w => by
    obtain ⟨c, F, env, res, env', g, hf, q⟩ := w
    simp only [eIdx, bind, Option.bind_eq_some_iff] at hf
    obtain ⟨⟨ro, e1⟩, h1, hf⟩ := hf
    dsimp only at hf
    split at hf
    · rename_i ds0 hl0
      simp only [Option.bind_eq_some_iff] at hf
      obtain ⟨⟨rx, e2⟩, h2, d, hd, hf⟩ := hf
      dsimp only at hd hf
      split at hf
      · rename_i ds hl
        split at hf
        · rename_i hok
          obtain ⟨j, hj, e⟩ := Option.map_eq_some_iff.mp hf
          cases e
          simp only [Bool.and_eq_true] at hok
          obtain ⟨⟨k1, k2⟩, k3⟩ := hok
          obtain ⟨p1, p2, _⟩ := inOk_un k3
          refine ⟨c, F, env, ro, e1, g, h1, fun x F1 H1 g1 s1 r1 => ?_⟩
          obtain ⟨F2, g2, s2, r2⟩ := settle_ok g1 r1
          have ox0 := look_ok g2 r2 hl0
          obtain ⟨a, xs, rfl, hr, _⟩ := ox0.list g2.sub
          refine ⟨.inl ⟨rfl, xs, hr.sq⟩, c, F2, e1, rx, _, g2, h2, fun y F3 H3 g3 s3 r3 => ?_⟩
          have ox := look_ok g3 (r2.keep (settle_settled ro) s3) hl
          have oy := look_ok g3 r3 hd
          obtain ⟨q1, q2, q3⟩ := List.findIdx?_eq_some_iff_getElem.mp hj
          refine ⟨a, y, d, ds, j, ds[j], rfl, rfl, ox.dp g3.sub (by simpa only [PyData.plain] using p2), oy.dp g3.sub p1, k1, k2, List.getElem?_eq_getElem q1, q2, fun m z hm hz => ?_, q _ F3 H3 g3 ((s1.trans s2).trans s3) (.int _)⟩
          have hml : m < ds.length := by omega
          rw [List.getElem?_eq_getElem hml] at hz
          cases hz
          simpa using q3 m hm
        · cases hf
      · cases hf
    · cases hf
end

/-! ### a def that calls itself -/
section
variable {P : Program} {w : World} {K : PySem.W.Frag} {mg : Str → Option Value} {base : Heap}
theorem cal_none {x : Str} {st : Stmt} {ps : List Str} {k : Nat} (D : DefOk K mg x st ps) : C8.Cal P w K mg base k x (spF K fun _ => none) [] := by
  obtain ⟨fa, fd, Dd, b⟩ := D.ex
  exact ⟨fa, fd, ps, [], ⟨fun vs H Q E ⟨_, _, _, _, _, _, _, h, _⟩ => (by cases h), fun A outer s H args us vs Q E _ _ _ _ ⟨_, _, _, _, _, _, _, h, _⟩ => (by cases h)⟩, Dd.mgf, Dd.kp, .all b, .nil⟩
end
end Ev
set_option Elab.async false
set_option linter.all false
set_option maxRecDepth 100000
set_option maxHeartbeats 1000000
/-! Ev22: comprehensions of two fors. -/
namespace Ev
open PySem PySem.Spec PyProof.Rows L2

/-- [f for tg in it if t for tg1 in it1 if t1] -/
def loopI (tg : TgE) (t : T) (f : E) (vs1 vs : List Nat) : List D → Env → Option (List D × Env)
  | [], e => some ([], e)
  | d :: ds, e => do
    let e1 ← tg d (wipeE e vs1)
    let (b, e2) ← t e1
    if b then do
      let (r, e3) ← f e2
      let (d', e4) ← take r e3
      if okWipe e4 vs then do
        let (rest, e5) ← loopI tg t f vs1 vs ds e4
        pure (d' :: rest, e5)
      else none
    else if okWipe e2 vs then loopI tg t f vs1 vs ds e2 else none
def loopC2 (tg : TgE) (t : T) (it1 : I) (tg1 : TgE) (t1 : T) (f : E) (vs vs1 : List Nat) : List D → Env → Option (List D × Env)
  | [], e => some ([], e)
  | d :: ds, e => do
    let e1 ← tg d (wipeE e vs)
    let (b, e2) ← t e1
    if b then do
      let (ds1, l, e3) ← it1 e2
      if l = none ∧ okWipe e3 vs = true then do
        let (out1, e4) ← loopI tg1 t1 f vs1 vs ds1 e3
        let (rest, e5) ← loopC2 tg t it1 tg1 t1 f vs vs1 ds e4
        pure (out1 ++ rest, e5)
      else none
    else if okWipe e2 vs then loopC2 tg t it1 tg1 t1 f vs vs1 ds e2 else none
def eComp2 (it : I) (tg : TgE) (t : T) (it1 : I) (tg1 : TgE) (t1 : T) (f : E) (vs vs1 : List Nat) : E := fun e => do
  let (ds, l, e1) ← it e
  if okWipe e1 vs then do
    let (out, e2) ← loopC2 tg t it1 tg1 t1 f vs vs1 ds e1
    let e3 ← unlockE l (restoreE e1 (wipeE e2 vs) vs)
    if out.length ≤ sizeLine then pure (.new (.list out), e3) else none
  else none
theorem loopI_ok {tg : TgE} {t : T} {f : E} {vs1 vs : List Nat} : ∀ {ds : List D} {e e' : Env} {out : List D}, okWipe e vs = true → loopI tg t f vs1 vs ds e = some (out, e') → okWipe e' vs = true
  | [], _, _, _, h, hl => by cases hl; exact h
  | d :: ds, e, e', out, h, hl => by
    simp only [loopI, bind, Option.bind_eq_some_iff] at hl
    obtain ⟨e1, h1, ⟨b, e2⟩, h2, h3⟩ := hl
    cases b with
    | true =>
      simp only [if_true, Option.bind_eq_some_iff] at h3
      obtain ⟨⟨r, e3⟩, h4, ⟨d', e4⟩, h5, h6⟩ := h3
      split at h6
      · rename_i hw
        simp only [Option.bind_eq_some_iff, pure, Option.some.injEq] at h6
        obtain ⟨⟨rest, e5⟩, h7, e⟩ := h6
        cases e
        exact loopI_ok hw h7
      · cases h6
    | false =>
      dsimp only at h3
      rw [if_neg Bool.false_ne_true] at h3
      split at h3
      · rename_i hw; exact loopI_ok hw h3
      · cases h3
theorem wipe_at {σ : L2.St} {j : Nat} : ∀ {vs : List Nat}, j ∈ vs → (wipe σ vs)[j]? = if j < σ.length then some none else none := fun {vs} hj => by
  by_cases hl : j < σ.length
  · rw [if_pos hl]
    have hlt : j < (wipe σ vs).length := by rw [wipe_length]; exact hl
    cases q : (wipe σ vs)[j]? with
    | none => rw [List.getElem?_eq_none_iff] at q; omega
    | some o =>
      cases o with
      | none => rfl
      | some v => exact absurd hj (wipe_some q).2
  · rw [if_neg hl, List.getElem?_eq_none_iff, wipe_length]; omega
theorem wipe_wipe {σ : L2.St} {vs1 vs : List Nat} (h : ∀ i ∈ vs1, i ∈ vs) : wipe (wipe σ vs1) vs = wipe σ vs := by
  refine List.ext_getElem? fun j => ?_
  by_cases hj : j ∈ vs
  · rw [wipe_at hj, wipe_at hj, wipe_length]
  · rw [wipe_out hj, wipe_out hj, wipe_out fun z => hj (h j z)]
theorem wipeE_at {e : Env} {j : Nat} {vs : List Nat} (hj : j ∈ vs) : (wipeE e vs)[j]? = if j < e.length then some .emp else none := by
  by_cases hl : j < e.length
  · rw [if_pos hl]
    have hlt : j < (wipeE e vs).length := by rw [wipeE_len]; exact hl
    cases q : (wipeE e vs)[j]? with
    | none => rw [List.getElem?_eq_none_iff] at q; omega
    | some o => rw [wipeE_in hj q]
  · rw [if_neg hl, List.getElem?_eq_none_iff, wipeE_len]; omega
theorem wipeE_wipeE {e : Env} {vs1 vs : List Nat} (h : ∀ i ∈ vs1, i ∈ vs) : wipeE (wipeE e vs1) vs = wipeE e vs := by
  refine List.ext_getElem? fun j => ?_
  by_cases hj : j ∈ vs
  · rw [wipeE_at hj, wipeE_at hj, wipeE_len]
  · rw [wipeE_out hj, wipeE_out hj, wipeE_out fun z => hj (h j z)]
theorem okWipe_sub {e : Env} {vs1 vs : List Nat} (h : ∀ i ∈ vs1, i ∈ vs) (k : okWipe e vs = true) : okWipe e vs1 = true := List.all_eq_true.mpr fun j hj => List.all_eq_true.mp k j (h j hj)
theorem okWipe_after {e : Env} {vs1 vs : List Nat} (h : ∀ i ∈ vs1, i ∈ vs) (k : okWipe e vs = true) : okWipe (wipeE e vs1) vs = true := List.all_eq_true.mpr fun j hj => by
  by_cases h1 : j ∈ vs1
  · have hl : j < e.length := by
      rcases okWipe_at k hj with q | ⟨d, q⟩ <;> exact (List.getElem?_eq_some_iff.mp q).1
    rw [wipeE_at h1, if_pos hl]
  · rw [wipeE_out h1]; exact List.all_eq_true.mp k j hj
section
variable {X : Cx} {tg iter elt tg1 iter1 : Expr} {ifs ifs1 : List Expr} {it it1 : I} {ga ga1 : TgE} {ws ws1 : List Nat} {t t1 : T} {f : E} {scope : Scope} {own : List (Str × Nat)} {vs1 : List Nat} {pos : Pos}
theorem comp2_ok {vs : List Nat} (hws : ∀ j ∈ ws, j ∈ vs) (hws1 : ∀ j ∈ ws1, j ∈ vs1) (hv : ∀ i ∈ vs1, i ∈ vs) {σ : L2.St} {H : Hp} {Q : VK} {ti : TI} {pre : Pre} (h : ItOk X.K it ti pre) (w : tEp X.K pre (eComp2 it ga t it1 ga1 t1 f vs vs1) σ H Q) :
    tLc2 (fun σ H R => ti σ H fun J H' => Siz X.K H' → R J H') (tG X.K ga ws) (tT X.K t) (fun σ H R => tI X.K it1 σ H fun J H' => Siz X.K H' → R J H') (tG X.K ga1 ws1) (tT X.K t1) (tE X.K f) vs vs1 σ H Q := by
  obtain ⟨c, F, env, res, env', g, hpre, hf, q⟩ := w
  simp only [eComp2, bind, Option.bind_eq_some_iff] at hf
  obtain ⟨⟨ds, l, e1⟩, h1, h2⟩ := hf
  dsimp only at h2
  split at h2
  · rename_i hw1
    simp only [Option.bind_eq_some_iff] at h2
    obtain ⟨⟨out, e2⟩, h3, e3, h4, e⟩ := h2
    dsimp only at e
    have hout : out.length ≤ sizeLine := by
      split at e
      · assumption
      · cases e
    rw [if_pos hout] at e
    cases e
    refine h.run g hpre h1 fun J c' F1 H1 hk g1 s1 W hsz siz D hD => ?_
    obtain ⟨Gp, Y, wk, hG, hY⟩ := W
    obtain ⟨n1, ⟨n2, n3⟩, n4⟩ := g1.new hD
    have hlkD : ∀ i, c'.lk i ≠ some D := fun i z => (g1.lkc i D z).1 n3
    -- the outer invariant
    let Pv : Nat → Hp → Prop := fun i H' => ∃ F' e acc xs rest, G X.K (c'.hold D (.lst xs)) F' H' (wipe σ vs) (wipeE e vs) ∧ okWipe e vs = true ∧ Same F1 F' ∧ RpA X.K F' xs acc ∧ loopC2 ga t it1 ga1 t1 f vs vs1 (ds.drop i) e = some (rest, e2) ∧ out = acc ++ rest ∧ xs.length ≤ sizeLine
    refine ⟨fun i m H => m = ds.length - i ∧ i ≤ ds.length ∧ Pv i H, ⟨ds.length, by simp, Nat.zero_le _, F1, e1, [], [], out, (g1.hold hD).wiped hw1, hw1, Same.refl F1, .nil, h3, rfl, by simp⟩, ?_⟩
    rintro i m H2 ⟨rfl, hi, P⟩
    obtain ⟨F2, e, acc, xs, rest, g2, hw, s2, ra, hl, ho, hxl⟩ := id P
    have q0 : Gp H2 := hG _ F2 H2 _ _ (CtxLe.hold n3) g2 s2
    by_cases hlt : i < ds.length
    · refine .inr ⟨wk.goes i H2 hlt q0, Pv (i + 1), fun H' p' => ⟨ds.length - (i + 1), by omega, rfl, hlt, p'⟩, fun x H3 y0 => ?_⟩
      have y := wk.yields i H2 x H3 hlt q0 y0
      obtain ⟨d, F3, hd, g3, s3, rd, _⟩ := hY i H2 x H3 _ F2 _ _ hlt (CtxLe.hold n3) g2 s2 y
      have hdrop : ds.drop i = d :: ds.drop (i + 1) := by
        obtain ⟨hlt, e'⟩ := List.getElem?_eq_some_iff.mp hd
        rw [← e']; exact List.drop_eq_getElem_cons hlt
      rw [hdrop] at hl
      simp only [loopC2, bind, Option.bind_eq_some_iff] at hl
      obtain ⟨ea, h5, ⟨b, eb⟩, h6, h7⟩ := hl
      refine ⟨_, F3, _, d, ea, g3, rd, h5, fun σ4 F4 H4 o4 g4 s4 => ⟨off_wipe o4 hws, _, F4, ea, b, eb, g4, h6, fun F5 H5 g5 s5 => ?_⟩⟩
      have s15 : Same F1 F5 := ((s2.trans s3).trans s4).trans s5
      have s25 : Same F2 F5 := (s3.trans s4).trans s5
      cases b with
      | false =>
        rw [if_neg Bool.false_ne_true] at h7
        split at h7
        · rename_i hw4
          refine iteF ⟨F5, eb, acc, xs, rest, ?_, hw4, s15, ra.mono s25, h7, ho, hxl⟩
          have g8 := g5.wiped hw4
          rw [off_wipe o4 hws] at g8
          exact g8
        · cases h7
      | true =>
        simp only [if_true, Option.bind_eq_some_iff] at h7
        obtain ⟨⟨ds1, l1, ec⟩, h8, h9⟩ := h7
        dsimp only at h9
        split at h9
        · rename_i hw4
          obtain ⟨hl1, hw5⟩ := hw4
          subst hl1
          simp only [Option.bind_eq_some_iff, pure, Option.some.injEq] at h9
          obtain ⟨⟨out1, ed⟩, h10, ⟨rest', e5⟩, h11, e12⟩ := h9
          cases e12
          refine iteT ⟨_, F5, eb, ds1, none, ec, g5, h8, fun J1 c2 F6 H6 hk2 g6 s6 W1 hsz1 siz1 => ?_⟩
          obtain rfl : c2 = c'.hold D (.lst xs) := hk2
          obtain ⟨Gp1, Y1, wk1, hG1, hY1⟩ := W1
          have s16 := s15.trans s6
          -- the inner invariant
          let Pw : Nat → Hp → Prop := fun k H' => ∃ F' e' acc' xs' rest1, G X.K (c'.hold D (.lst xs')) F' H' (wipe σ4 vs1) (wipeE e' vs1) ∧ okWipe e' vs = true ∧ Same F6 F' ∧ RpA X.K F' xs' acc' ∧ loopI ga1 t1 f vs1 vs (ds1.drop k) e' = some (rest1, ed) ∧ acc ++ out1 = acc' ++ rest1 ∧ xs'.length ≤ sizeLine
          refine ⟨fun k m H => m = ds1.length - k ∧ k ≤ ds1.length ∧ Pw k H, ⟨ds1.length, by simp, Nat.zero_le _, F6, ec, acc, xs, out1, g6.wiped (okWipe_sub hv hw5), hw5, Same.refl F6, ra.mono (s25.trans s6), h10, rfl, hxl⟩, ?_⟩
          rintro k m H7 ⟨rfl, hk, P1⟩
          obtain ⟨F7, e7, acc7, xs7, rest7, g7, hw7, s7, ra7, hl7, ho7, hxl7⟩ := id P1
          have q7 : Gp1 H7 := hG1 _ F7 H7 _ _ (CtxLe.rehold hlkD) g7 s7
          by_cases hlt1 : k < ds1.length
          · refine .inr ⟨wk1.goes k H7 hlt1 q7, Pw (k + 1), fun H' p' => ⟨ds1.length - (k + 1), by omega, rfl, hlt1, p'⟩, fun x1 H8 y1 => ?_⟩
            have y1' := wk1.yields k H7 x1 H8 hlt1 q7 y1
            obtain ⟨d1, F8, hd1, g8, s8, rd1, _⟩ := hY1 k H7 x1 H8 _ F7 _ _ hlt1 (CtxLe.rehold hlkD) g7 s7 y1'
            have hdrop1 : ds1.drop k = d1 :: ds1.drop (k + 1) := by
              obtain ⟨hlt, e'⟩ := List.getElem?_eq_some_iff.mp hd1
              rw [← e']; exact List.drop_eq_getElem_cons hlt
            rw [hdrop1] at hl7
            simp only [loopI, bind, Option.bind_eq_some_iff] at hl7
            obtain ⟨ef, h13, ⟨b1, eg⟩, h14, h15⟩ := hl7
            refine ⟨_, F8, _, d1, ef, g8, rd1, h13, fun σ9 F9 H9 o9 g9 s9 => ⟨off_wipe o9 hws1, _, F9, ef, b1, eg, g9, h14, fun F10 H10 g10 s10 => ?_⟩⟩
            have t10 : Same F7 F10 := (s8.trans s9).trans s10
            cases b1 with
            | true =>
              simp only [if_true, Option.bind_eq_some_iff] at h15
              obtain ⟨⟨r, eh⟩, h16, ⟨d', ei⟩, h17, h18⟩ := h15
              split at h18
              · rename_i hw9
                simp only [Option.bind_eq_some_iff, pure, Option.some.injEq] at h18
                obtain ⟨⟨rest', e5'⟩, h19, e20⟩ := h18
                cases e20
                refine iteT ⟨_, F10, eg, r, eh, g10, h16, fun v F11 H11 g11 s11 r11 => ?_⟩
                obtain ⟨F12, g12, s12, r12⟩ := take_ok g11 r11 h17
                have t12 := (t10.trans s11).trans s12
                have hlen7 := ra7.length
                have hsz7 : xs7.length < sizeLine := by
                  have z1 := congrArg List.length ho
                  have z2 := congrArg List.length ho7
                  simp only [List.length_append, List.length_cons] at z1 z2
                  omega
                refine ⟨xs7, g12.held.1, hsz7, F12, ei, acc7 ++ [d'], xs7 ++ [v], rest', ?_, hw9, s7.trans t12, (ra7.mono t12).append (.cons r12 .nil), h19, by rw [ho7]; simp, by rw [List.length_append, List.length_singleton]; omega⟩
                have g13 := (g12.wiped (okWipe_sub hv hw9)).rehold (u := .lst (xs7 ++ [v])) n2 hlkD
                rw [off_wipe o9 hws1] at g13
                exact g13
              · cases h18
            | false =>
              rw [if_neg Bool.false_ne_true] at h15
              split at h15
              · rename_i hw9
                refine iteF ⟨F10, eg, acc7, xs7, rest7, ?_, hw9, s7.trans t10, ra7.mono t10, h15, ho7, hxl7⟩
                have g13 := g10.wiped (okWipe_sub hv hw9)
                rw [off_wipe o9 hws1] at g13
                exact g13
              · cases h15
          · have e : k = ds1.length := by omega
            subst e
            rw [List.drop_length] at hl7
            cases hl7
            rw [List.append_nil] at ho7
            refine .inl ⟨wk1.stops H7 q7, F7, ed, acc7, xs7, rest', ?_, hw7, s16.trans s7, ra7, h11, by rw [ho, ← List.append_assoc, ho7], hxl7⟩
            have g13 := g7.wiped (okWipe_after hv hw7)
            rw [wipe_wipe hv, wipeE_wipeE hv, off_wipe o4 hws] at g13
            exact g13
        · cases h9
    · have e : i = ds.length := by omega
      subst e
      rw [List.drop_length] at hl
      cases hl
      rw [List.append_nil] at ho
      subst ho
      have g3 := g2.restore (g1.hold (o := .lst xs) hD) s2 hw1 (okWipe_wiped hw)
      obtain ⟨m1, m2, m3⟩ := g3.held
      have g4 := g3.drop n3 hlkD
      have r4 : RsOk X.K c' F2 H2 σ (restoreE e1 (wipeE e2 vs) vs) (.ref D) (.new (.list out)) := ⟨D, rfl, m2, ⟨n2, n3⟩, .lst m1 ra, m3⟩
      exact .inl ⟨wk.stops H2 q0, q _ F2 H2 (unlock_ok hk g4 h4) (s1.trans s2) (unlock_rs hk g4 h4 r4)⟩
  · cases h2
theorem je_comp2G {ti : TI} {pre : Pre} (h : ItOk X.K it ti pre) (hc : X.calm = true) (hN : X.N.Nodup) (hi : PI X tg iter ti) (ok : BlkOk X.N X.env.scope scope own)
    (hg : ∀ (s : Shared) (H : Hp) (C : Addr) (cl : List (Str × Addr)) (fp : List Addr), JG (X.blk s H scope (compEnvC scope cl C X.env) fp) tg ga ws) (ht : ∀ (s : Shared) (H : Hp) (C : Addr) (cl : List (Str × Addr)) (fp : List Addr), JTs (X.blk s H scope (compEnvC scope cl C X.env) fp) ifs t)
    (hi1 : ∀ (s : Shared) (H : Hp) (C : Addr) (cl : List (Str × Addr)) (fp : List Addr), JI (X.blk s H scope (compEnvC scope cl C X.env) fp) tg1 iter1 it1)
    (hg1 : ∀ (s : Shared) (H : Hp) (C : Addr) (cl : List (Str × Addr)) (fp : List Addr), JG (X.blk s H scope (compEnvC scope cl C X.env) fp) tg1 ga1 ws1) (ht1 : ∀ (s : Shared) (H : Hp) (C : Addr) (cl : List (Str × Addr)) (fp : List Addr), JTs (X.blk s H scope (compEnvC scope cl C X.env) fp) ifs1 t1)
    (he : ∀ (s : Shared) (H : Hp) (C : Addr) (cl : List (Str × Addr)) (fp : List Addr), JE (X.blk s H scope (compEnvC scope cl C X.env) fp) elt f)
    (hws : ∀ j ∈ ws, j ∈ own.map (·.2) := by decide) (hws1 : ∀ j ∈ ws1, j ∈ vs1 := by decide) (hv : ∀ i ∈ vs1, i ∈ own.map (·.2) := by decide)
    (hs : ∀ x, foldedSetIterable iter X.env x = pure x := by intro _; rfl) (hs1 : ∀ env x, foldedSetIterable iter1 env x = pure x := by intro _ _; rfl) :
    PE X (.ListComp elt [⟨tg, iter, ifs, 0⟩, ⟨tg1, iter1, ifs1, 0⟩] scope pos) (tEp X.K pre (eComp2 it ga t it1 ga1 t1 f (own.map (·.2)) vs1)) :=
  (pe_lc2 hc hN hi.siz ok hv hg ht (fun s H C cl fp => (hi1 s H C cl fp).siz) hg1 ht1 he hs hs1).imp fun σ H Q w => comp2_ok hws hws1 hv h w
theorem je_comp2 (hc : X.calm = true) (hN : X.N.Nodup) (hi : JI X tg iter it) (ok : BlkOk X.N X.env.scope scope own)
    (hg : ∀ (s : Shared) (H : Hp) (C : Addr) (cl : List (Str × Addr)) (fp : List Addr), JG (X.blk s H scope (compEnvC scope cl C X.env) fp) tg ga ws) (ht : ∀ (s : Shared) (H : Hp) (C : Addr) (cl : List (Str × Addr)) (fp : List Addr), JTs (X.blk s H scope (compEnvC scope cl C X.env) fp) ifs t)
    (hi1 : ∀ (s : Shared) (H : Hp) (C : Addr) (cl : List (Str × Addr)) (fp : List Addr), JI (X.blk s H scope (compEnvC scope cl C X.env) fp) tg1 iter1 it1)
    (hg1 : ∀ (s : Shared) (H : Hp) (C : Addr) (cl : List (Str × Addr)) (fp : List Addr), JG (X.blk s H scope (compEnvC scope cl C X.env) fp) tg1 ga1 ws1) (ht1 : ∀ (s : Shared) (H : Hp) (C : Addr) (cl : List (Str × Addr)) (fp : List Addr), JTs (X.blk s H scope (compEnvC scope cl C X.env) fp) ifs1 t1)
    (he : ∀ (s : Shared) (H : Hp) (C : Addr) (cl : List (Str × Addr)) (fp : List Addr), JE (X.blk s H scope (compEnvC scope cl C X.env) fp) elt f)
    (hws : ∀ j ∈ ws, j ∈ own.map (·.2) := by decide) (hws1 : ∀ j ∈ ws1, j ∈ vs1 := by decide) (hv : ∀ i ∈ vs1, i ∈ own.map (·.2) := by decide)
    (hs : ∀ x, foldedSetIterable iter X.env x = pure x := by intro _; rfl) (hs1 : ∀ env x, foldedSetIterable iter1 env x = pure x := by intro _ _; rfl) :
    JE X (.ListComp elt [⟨tg, iter, ifs, 0⟩, ⟨tg1, iter1, ifs1, 0⟩] scope pos) (eComp2 it ga t it1 ga1 t1 f (own.map (·.2)) vs1) :=
  (je_comp2G (pre := fun _ _ _ _ _ => True) ItOk.std hc hN hi ok hg ht hi1 hg1 ht1 he hws hws1 hv hs hs1).imp fun σ H Q w => tEp.of (fun _ _ _ _ _ => trivial) w
theorem js_setComp2G {ti : TI} {pre : Pre} (h : ItOk X.K it ti pre) {i : Nat} {y : Str} {py spos : Pos} (hc : X.calm = true) (hN : X.N.Nodup) (hi : PI X tg iter ti) (ok : BlkOk X.N X.env.scope scope own)
    (hg : ∀ (s : Shared) (H : Hp) (C : Addr) (cl : List (Str × Addr)) (fp : List Addr), JG (X.blk s H scope (compEnvC scope cl C X.env) fp) tg ga ws) (ht : ∀ (s : Shared) (H : Hp) (C : Addr) (cl : List (Str × Addr)) (fp : List Addr), JTs (X.blk s H scope (compEnvC scope cl C X.env) fp) ifs t)
    (hi1 : ∀ (s : Shared) (H : Hp) (C : Addr) (cl : List (Str × Addr)) (fp : List Addr), JI (X.blk s H scope (compEnvC scope cl C X.env) fp) tg1 iter1 it1)
    (hg1 : ∀ (s : Shared) (H : Hp) (C : Addr) (cl : List (Str × Addr)) (fp : List Addr), JG (X.blk s H scope (compEnvC scope cl C X.env) fp) tg1 ga1 ws1) (ht1 : ∀ (s : Shared) (H : Hp) (C : Addr) (cl : List (Str × Addr)) (fp : List Addr), JTs (X.blk s H scope (compEnvC scope cl C X.env) fp) ifs1 t1)
    (he : ∀ (s : Shared) (H : Hp) (C : Addr) (cl : List (Str × Addr)) (fp : List Addr), JE (X.blk s H scope (compEnvC scope cl C X.env) fp) elt f)
    (hws : ∀ j ∈ ws, j ∈ own.map (·.2) := by decide) (hws1 : ∀ j ∈ ws1, j ∈ vs1 := by decide) (hv : ∀ i ∈ vs1, i ∈ own.map (·.2) := by decide)
    (hs : ∀ x, foldedSetIterable iter X.env x = pure x := by intro _; rfl) (hs1 : ∀ env x, foldedSetIterable iter1 env x = pure x := by intro _ _; rfl)
    (hy : X.N[i]? = some y := by rfl) (hyl : X.env.scope.names.lookup y = some .local := by rfl)
    (hsw : swapsWith (.ListComp elt [⟨tg, iter, ifs, 0⟩, ⟨tg1, iter1, ifs1, 0⟩] scope pos) (some (.Name y py)) spos.line X.env = pure true := by exact sw_true rfl rfl rfl (by decide +kernel)) :
    PS X (.Assign [.Name y py] (.ListComp elt [⟨tg, iter, ifs, 0⟩, ⟨tg1, iter1, ifs1, 0⟩] scope pos) spos) (tSp X.K pre (sAsg i (eComp2 it ga t it1 ga1 t1 f (own.map (·.2)) vs1))) :=
  (ps_setLc2 hc hN hy hyl hsw hi.siz ok hv hg ht (fun s H C cl fp => (hi1 s H C cl fp).siz) hg1 ht1 he hs hs1).imp fun Dn σ H w => by
  obtain ⟨c, F, env, o, g, hpre, hf, q⟩ := w
  simp only [sAsg, bind, Option.bind_eq_some_iff, pure, Option.some.injEq] at hf
  obtain ⟨⟨r, e1⟩, h1, e2, h2, e⟩ := hf
  cases e
  refine comp2_ok (Q := fun x H1 => gName i x σ H1 Dn.nx) hws hws1 hv h ⟨c, F, env, r, e1, g, hpre, h1, fun v F1 H1 g1 s1 r1 => ?_⟩
  obtain ⟨F2, g2, s2⟩ := store_okS g1 r1 h2
  exact q _ F2 H1 g2 (s1.trans s2)
theorem js_setComp2 {i : Nat} {y : Str} {py spos : Pos} (hc : X.calm = true) (hN : X.N.Nodup) (hi : JI X tg iter it) (ok : BlkOk X.N X.env.scope scope own)
    (hg : ∀ (s : Shared) (H : Hp) (C : Addr) (cl : List (Str × Addr)) (fp : List Addr), JG (X.blk s H scope (compEnvC scope cl C X.env) fp) tg ga ws) (ht : ∀ (s : Shared) (H : Hp) (C : Addr) (cl : List (Str × Addr)) (fp : List Addr), JTs (X.blk s H scope (compEnvC scope cl C X.env) fp) ifs t)
    (hi1 : ∀ (s : Shared) (H : Hp) (C : Addr) (cl : List (Str × Addr)) (fp : List Addr), JI (X.blk s H scope (compEnvC scope cl C X.env) fp) tg1 iter1 it1)
    (hg1 : ∀ (s : Shared) (H : Hp) (C : Addr) (cl : List (Str × Addr)) (fp : List Addr), JG (X.blk s H scope (compEnvC scope cl C X.env) fp) tg1 ga1 ws1) (ht1 : ∀ (s : Shared) (H : Hp) (C : Addr) (cl : List (Str × Addr)) (fp : List Addr), JTs (X.blk s H scope (compEnvC scope cl C X.env) fp) ifs1 t1)
    (he : ∀ (s : Shared) (H : Hp) (C : Addr) (cl : List (Str × Addr)) (fp : List Addr), JE (X.blk s H scope (compEnvC scope cl C X.env) fp) elt f)
    (hws : ∀ j ∈ ws, j ∈ own.map (·.2) := by decide) (hws1 : ∀ j ∈ ws1, j ∈ vs1 := by decide) (hv : ∀ i ∈ vs1, i ∈ own.map (·.2) := by decide)
    (hs : ∀ x, foldedSetIterable iter X.env x = pure x := by intro _; rfl) (hs1 : ∀ env x, foldedSetIterable iter1 env x = pure x := by intro _ _; rfl)
    (hy : X.N[i]? = some y := by rfl) (hyl : X.env.scope.names.lookup y = some .local := by rfl)
    (hsw : swapsWith (.ListComp elt [⟨tg, iter, ifs, 0⟩, ⟨tg1, iter1, ifs1, 0⟩] scope pos) (some (.Name y py)) spos.line X.env = pure true := by exact sw_true rfl rfl rfl (by decide +kernel)) :
    JS X (.Assign [.Name y py] (.ListComp elt [⟨tg, iter, ifs, 0⟩, ⟨tg1, iter1, ifs1, 0⟩] scope pos) spos) (sAsg i (eComp2 it ga t it1 ga1 t1 f (own.map (·.2)) vs1)) :=
  (js_setComp2G (pre := fun _ _ _ _ _ => True) ItOk.std hc hN hi ok hg ht hi1 hg1 ht1 he hws hws1 hv hs hs1 hy hyl hsw).imp fun Dn σ H w => by
  obtain ⟨c, F, env, o, g, hf, q⟩ := w
  exact ⟨c, F, env, o, g, trivial, hf, q⟩
end
end Ev
set_option Elab.async false
set_option linter.all false
set_option maxRecDepth 100000
set_option maxHeartbeats 1000000
/-! Ev23: dict displays. -/
namespace Ev
open PySem PySem.Spec PyProof.Rows L2

def dpRun : List (E × E) → Env → Option (List (D × D) × Env)
  | [], e => some ([], e)
  | (fk, fv) :: l, e => do
    let (rk, e1) ← fk e
    let (k, e2) ← take rk e1
    let (rv, e3) ← fv e2
    let (v, e4) ← take rv e3
    let (ps, e5) ← dpRun l e4
    pure ((k, v) :: ps, e5)
def eDisp (l : List (E × E)) : E := fun e => do
  let (ps, e1) ← dpRun l e
  if (ps.all fun p => (asKey p.1).isSome) = true ∧ ps.length ≤ 15 then pure (.new (.dict (ps.foldl (fun acc p => dput acc p.1 p.2) [])), e1) else none
def RpP (K : PySem.W.Frag) (F : Hp) : List (V × V) → List (D × D) → Prop
  | [], [] => True
  | (x, y) :: vs, (k, v) :: ps => (Rp K F x k ∧ Rp K F y v) ∧ RpP K F vs ps
  | _, _ => False
abbrev trs (K : PySem.W.Frag) (l : List (E × E)) : List (TE × TE) := l.map fun p => (tE K p.1, tE K p.2)
section
variable {X : Cx} {pos : Pos} {ks : List (Option Expr)} {vs : List Expr} {k v : Expr} {fk fv : E} {l : List (E × E)}
theorem jdp_nil : PPs X pos [] [] (trs X.K []) := pps_nil
theorem jdp_cons (hk : JE X k fk) (hv : JE X v fv) (hr : PPs X pos ks vs (trs X.K l)) : PPs X pos (some k :: ks) (v :: vs) (trs X.K ((fk, fv) :: l)) := pps_cons hk hv hr
theorem pairs_ok {K : PySem.W.Frag} {σ : L2.St} : ∀ {l : List (E × E)} {H : Hp} {Q : List (V × V) → Hp → Prop}, (∃ c F env ps env', G K c F H σ env ∧ dpRun l env = some (ps, env') ∧ ∀ vvs F' H', G K c F' H' σ env' → Same F F' → RpP K F' vvs ps → Q vvs H') → tPairs (trs K l) σ H Q
  | [], H, Q, ⟨c, F, env, ps, env', g, hf, q⟩ => by cases hf; exact q [] F H g (Same.refl F) trivial
  | (fk, fv) :: l, H, Q, ⟨c, F, env, ps, env', g, hf, q⟩ => by
    simp only [dpRun, bind, Option.bind_eq_some_iff, pure, Option.some.injEq] at hf
    obtain ⟨⟨rk, e1⟩, h1, ⟨k, e2⟩, h2, ⟨rv, e3⟩, h3, ⟨v, e4⟩, h4, ⟨ps', e5⟩, h5, e⟩ := hf
    cases e
    refine ⟨c, F, env, rk, e1, g, h1, fun x F1 H1 g1 s1 r1 => ?_⟩
    obtain ⟨F2, g2, s2, r2⟩ := take_ok g1 r1 h2
    refine ⟨c, F2, e2, rv, e3, g2, h3, fun y F3 H3 g3 s3 r3 => ?_⟩
    obtain ⟨F4, g4, s4, r4⟩ := take_ok g3 r3 h4
    exact pairs_ok ⟨c, F4, e4, ps', _, g4, h5, fun vvs F5 H5 g5 s5 r5 => q ((x, y) :: vvs) F5 H5 g5 ((((s1.trans s2).trans s3).trans s4).trans s5) ⟨⟨r2.mono ((s3.trans s4).trans s5), r4.mono s5⟩, r5⟩⟩
theorem rpP_keys {K : PySem.W.Frag} {F : Hp} : ∀ {vvs : List (V × V)} {ps : List (D × D)}, RpP K F vvs ps → (ps.all fun p => (asKey p.1).isSome) = true →
    ∃ kvs : List (Key × V), vvs = kvs.map (fun kv => (kV kv.1, kv.2)) ∧ kvs.length = ps.length ∧ ∀ acc ds, RpK K F acc ds → RpK K F (mergeK acc kvs) (ps.foldl (fun acc p => dput acc p.1 p.2) ds)
  | [], [], _, _ => ⟨[], rfl, rfl, fun acc ds r => r⟩
  | (x, y) :: vvs, (k, v) :: ps, h, ha => by
    rw [List.all_cons, Bool.and_eq_true] at ha
    obtain ⟨kvs, e1, e2, e3⟩ := rpP_keys h.2 ha.2
    obtain ⟨k0, hk0⟩ := Option.isSome_iff_exists.mp ha.1
    have ek := asKey_eq hk0
    subst ek
    obtain ⟨⟨rx, ry⟩, _⟩ := h
    have ex : x = kV k0 := by
      cases k0 with
      | inl i => cases rx; rfl
      | inr z => cases rx; rfl
    subst ex
    exact ⟨(k0, y) :: kvs, by rw [e1]; rfl, by rw [List.length_cons, List.length_cons, e2], fun acc ds r => e3 _ _ (r.put ry)⟩
  | [], _ :: _, h, _ => h.elim
  | _ :: _, [], h, _ => h.elim
theorem je_disp (h : PPs X pos ks vs (trs X.K l)) (hall : ks.all (·.isSome) = true := by rfl) (hl : ks.length = vs.length := by rfl) (h0 : ks ≠ [] := by intro h; cases h) (h15 : ks.length ≤ 15 := by decide) : JE X (.Dict ks vs pos) (eDisp l) :=
  (pe_disp h hall hl h0 h15).imp fun σ H Q w => by
    obtain ⟨c, F, env, res, env', g, hf, q⟩ := w
    simp only [eDisp, bind, Option.bind_eq_some_iff] at hf
    obtain ⟨⟨ps, e1⟩, h1, hf⟩ := hf
    dsimp only at hf
    split at hf
    · rename_i hk
      cases hf
      intro p hp
      obtain ⟨n1, ⟨n2, n3⟩, n4⟩ := g.new hp
      have hlk : ∀ i, c.lk i ≠ some p := fun i z => (g.lkc i p z).1 n3
      refine pairs_ok ⟨c.hold p (.dK []), F, env, ps, _, g.hold hp, h1, fun vvs F' H' g' s' r' => ?_⟩
      obtain ⟨kvs, e1, e2, e3⟩ := rpP_keys r' hk.1
      have hr := e3 [] [] .nil
      refine ⟨g'.held.1, kvs, e1, by rw [e2]; exact hk.2, ?_⟩
      have g2 := g'.rehold (u := .dK (mergeK [] kvs)) n2 hlk
      obtain ⟨m1, m2, m3⟩ := g2.held
      exact q _ F' _ (g2.drop n3 hlk) s' ⟨p, rfl, m2, ⟨n2, n3⟩, .dK m1 hr, m3⟩
    · cases hf
end
end Ev
set_option Elab.async false
set_option linter.all false
set_option maxRecDepth 100000
set_option maxHeartbeats 1000000
/-! Ev24: how the evaluators answer: numbers, steps. -/
namespace Ev
open PySem PySem.Spec PyProof.Rows L2

section
variable {i j : Int}
theorem ltOk_int : ltOk (.int i) (.int j) = true := by simp [ltOk, PySem.W.alike, isNone, deep, PyData.plain, PyData.depth]
theorem eqOk_int : eqOk (.int i) (.int j) = true := by simp [eqOk, deep, PyData.plain, PyData.depth]
theorem opLt_int : opLt (.int i) (.int j) = some (.shr (.bool (decide (i < j)))) := by
  unfold opLt; rw [ltOk_int, if_pos rfl, PySem.W.dataLt_int]
theorem opGt_int : opGt (.int i) (.int j) = some (.shr (.bool (decide (j < i)))) := by
  unfold opGt; rw [ltOk_int, if_pos rfl, PySem.W.dataLt_int]
theorem notdec {p q : Prop} [Decidable p] [Decidable q] (h : ¬p ↔ q) : (!decide p) = decide q := by
  by_cases hp : p
  · have : ¬q := fun z => h.mpr z hp
    simp [hp, this]
  · have : q := h.mp hp
    simp [hp, this]
theorem opLe_int : opLe (.int i) (.int j) = some (.shr (.bool (decide (i ≤ j)))) := by
  unfold opLe; rw [ltOk_int, if_pos rfl, PySem.W.dataLt_int, notdec Int.not_lt]
theorem opGe_int : opGe (.int i) (.int j) = some (.shr (.bool (decide (j ≤ i)))) := by
  unfold opGe; rw [ltOk_int, if_pos rfl, PySem.W.dataLt_int, notdec Int.not_lt]
theorem opEq_int : opEq (.int i) (.int j) = some (.shr (.bool (decide (i = j)))) := by
  unfold opEq; rw [eqOk_int, if_pos rfl]; simp only [PyData.eqv, Bool.beq_eq_decide_eq]
theorem opNe_int : opNe (.int i) (.int j) = some (.shr (.bool (!decide (i = j)))) := by
  unfold opNe; rw [eqOk_int, if_pos rfl]; simp only [PyData.eqv, Bool.beq_eq_decide_eq]
theorem opMul_k (h : mulOk i j = true) : opMul (.int i) (.int j) = some (.shr (.int (i * j))) := by simp only [opMul, h, if_true]
theorem opMul_r (h : j.natAbs < 2 ^ 64) : opMul (.int i) (.int j) = some (.shr (.int (i * j))) := opMul_k (by unfold mulOk; simp only [decide_eq_true h, Bool.or_true, Bool.true_or])
theorem opMul_l (h : i.natAbs < 2 ^ 64) : opMul (.int i) (.int j) = some (.shr (.int (i * j))) := opMul_k (by unfold mulOk; simp only [decide_eq_true h, Bool.or_true, Bool.true_or])
theorem log2_small {n : Nat} (hn : n < 2 ^ 200) : n.log2 < 201 := by
  by_cases h0 : n = 0
  · subst h0; decide
  · have := (Nat.log2_lt h0).mpr hn; omega
theorem opMul_m (h : i.natAbs < 2 ^ 200) (h' : j.natAbs < 2 ^ 200) : opMul (.int i) (.int j) = some (.shr (.int (i * j))) := opMul_k (by
  have a := log2_small h
  have b := log2_small h'
  unfold mulOk
  simp only [Bool.or_eq_true, decide_eq_true_eq]; right; omega)
theorem opMod_p (h : 0 < j) : opMod (.int i) (.int j) = some (.shr (.int (i % j))) := by simp only [opMod]; rw [if_pos h]
theorem opDiv_p (h : 0 < j) (h' : j.natAbs < 2 ^ 200) : opDiv (.int i) (.int j) = some (.shr (.int (i / j))) := by
  have := log2_small h'
  simp only [opDiv]; rw [if_pos h, if_pos (by omega)]
theorem emod_lt (h : 0 < j) (hj : j.natAbs < 2 ^ 200) : (i % j).natAbs < 2 ^ 200 := by
  have h1 := Int.emod_nonneg i (by omega : j ≠ 0)
  have h2 := Int.emod_lt_of_pos i h
  omega
end
section
variable {f g : S} {e e1 : Env} {r : Rs} {P : Option Out → Prop}
theorem seq_nx (h : f e = some (.nx e1)) (k : P (g e1)) : P (sSeq f g e) := by
  have : sSeq f g e = g e1 := by simp only [sSeq, h, bind, Option.bind]
  rw [this]; exact k
theorem seq_rt (h : f e = some (.rt r e1)) (k : P (some (.rt r e1))) : P (sSeq f g e) := by
  have : sSeq f g e = some (.rt r e1) := by simp only [sSeq, h, bind, Option.bind, pure]
  rw [this]; exact k
theorem if_t {t : T} (h : t e = some (true, e1)) (k : P (f e1)) : P (sIf t f g e) := by
  have : sIf t f g e = f e1 := by simp only [sIf, h, bind, Option.bind, if_true]
  rw [this]; exact k
theorem if_f {t : T} (h : t e = some (false, e1)) (k : P (g e1)) : P (sIf t f g e) := by
  have : sIf t f g e = g e1 := by simp only [sIf, h, bind, Option.bind]; rfl
  rw [this]; exact k
end
end Ev
set_option Elab.async false
set_option linter.all false
set_option maxRecDepth 100000
set_option maxHeartbeats 1000000
/-! Ev25: for k in d: the dict is locked while the statement runs. -/
namespace Ev
open PySem PySem.Spec PyProof.Rows L2

section
variable {K : PySem.W.Frag} {c : Ctx} {F F' H H' : Hp} {σ σ' : L2.St} {env env' : Env} {d : D} {a : Addr} {od : Obj} {u : HO} {i : Nat}
/-- one's own object is taken into the hands -/
theorem G.grab (g : G K c F H σ env) {i : Nat} (es : env[i]? = some (.own d)) (ev : σ[i]? = some (some (.ref a))) (hu : H a = some u) : G K (c.hold a u) F H σ (env.set i .emp) := by
  have hi : i < env.length := (List.getElem?_eq_some_iff.mp es).1
  obtain ⟨b, e1, hF, h0, ob⟩ := g.slot i _ _ es ev
  cases e1
  have ht := g.tmpNo es rfl ev
  have get : ∀ (m : Nat) (s : Slot), (env.set i .emp)[m]? = some s → (m = i ∧ s = .emp) ∨ (m ≠ i ∧ env[m]? = some s) := fun m s e => by
    by_cases hmi : m = i
    · subst hmi; rw [List.getElem?_set_self hi] at e; cases e; exact .inl ⟨rfl, rfl⟩
    · rw [List.getElem?_set_ne (Ne.symm hmi)] at e; exact .inr ⟨hmi, e⟩
  refine ⟨g.sub, by rw [List.length_set]; exact g.len, fun j s o' es' ev' => ?_, fun j k s t w hjk e1 e2 m1 m2 => ?_, g.old, g.fr0, g.frn, g.dom, g.ioh, fun b w e => ?_, g.pin, fun j d' es' => ?_, fun j b e => ?_, g.fz, g.tf⟩
  · rcases get j s es' with ⟨rfl, rfl⟩ | ⟨hj, e⟩
    · trivial
    · exact (g.slot j s o' e ev').ctx rfl rfl
  · rcases get j s e1 with ⟨_, rfl⟩ | ⟨_, e1'⟩
    · cases m1
    · rcases get k t e2 with ⟨_, rfl⟩ | ⟨_, e2'⟩
      · cases m2
      · exact g.dist j k s t w hjk e1' e2' m1 m2
  · by_cases hb : b = a
    · subst hb
      have e' : upd c.tmp b u b = some w := e
      rw [upd_same] at e'; cases e'
      refine ⟨hu, hF, fun j s es' m ev' => ?_⟩
      rcases get j s es' with ⟨_, rfl⟩ | ⟨hj, e⟩
      · cases m
      · exact g.dist i j _ s _ (Ne.symm hj) es e rfl m ev ev'
    · have e' : upd c.tmp a u b = some w := e
      rw [upd_ne hb] at e'
      obtain ⟨q1, q2, q3⟩ := g.tmp b w e'
      refine ⟨q1, q2, fun j s es' m ev' => ?_⟩
      rcases get j s es' with ⟨_, rfl⟩ | ⟨hj, e⟩
      · cases m
      · exact q3 j s e m ev'
  · rcases get j _ es' with ⟨_, z⟩ | ⟨hj, e⟩
    · cases z
    · obtain ⟨b, o, q1, q2, q3, q4⟩ := g.lk j d' e
      refine ⟨b, o, q1, q2, ?_, q4⟩
      show upd c.tmp a u b = some o
      rw [upd_ne fun z => by rw [z, ht] at q3; cases q3]; exact q3
  · obtain ⟨q1, d', q2⟩ := g.lkc j b e
    refine ⟨?_, d', ?_⟩
    · show upd c.tmp a u b ≠ none
      by_cases hb : b = a
      · rw [hb, upd_same]; simp
      · rw [upd_ne hb]; exact q1
    · rw [List.getElem?_set_ne fun z => by rw [z, q2] at es; cases es]; exact q2
/-- .. and given back -/
theorem G.release (g : G K (c.hold a u) F H σ env) {i : Nat} (es : env[i]? = some .emp) (ev : σ[i]? = some (some (.ref a))) (h0 : c.H0 a = none) (ht : c.tmp a = none) (hlk : ∀ i, c.lk i ≠ some a) (ob : Ob K F H a d) : G K c F H σ (env.set i (.own d)) := by
  have hi : i < env.length := (List.getElem?_eq_some_iff.mp es).1
  obtain ⟨hH, hF, hn⟩ := g.held
  have g1 := g.drop ht hlk
  have get : ∀ (m : Nat) (s : Slot), (env.set i (.own d))[m]? = some s → (m = i ∧ s = .own d) ∨ (m ≠ i ∧ env[m]? = some s) := fun m s e => by
    by_cases hmi : m = i
    · subst hmi; rw [List.getElem?_set_self hi] at e; cases e; exact .inl ⟨rfl, rfl⟩
    · rw [List.getElem?_set_ne (Ne.symm hmi)] at e; exact .inr ⟨hmi, e⟩
  refine g1.slots (by rw [List.length_set]; exact g1.len) (fun j s o es' ev' => ?_) (fun j k s t w hjk e1 e2 m1 m2 ev1 => ?_) (fun j s b es' m ev' => ?_) (fun j d' es' => ?_) fun j d' es' => ?_
  · rcases get j s es' with ⟨rfl, rfl⟩ | ⟨hj, e⟩
    · rw [ev] at ev'; cases ev'; exact ⟨a, rfl, hF, h0, ob⟩
    · exact g1.slot j s o e ev'
  · rcases get j s e1 with ⟨rfl, rfl⟩ | ⟨hj, e1'⟩
    · rw [ev] at ev1; cases ev1
      rcases get k t e2 with ⟨rfl, _⟩ | ⟨hk, e2'⟩
      · exact absurd rfl hjk
      · exact hn k t e2' m2
    · rcases get k t e2 with ⟨rfl, rfl⟩ | ⟨hk, e2'⟩
      · rw [ev]
        intro z
        cases z
        exact hn j s e1' m1 ev1
      · exact g1.dist j k s t w hjk e1' e2' m1 m2 ev1
  · rcases get j s es' with ⟨rfl, rfl⟩ | ⟨hj, e⟩
    · rw [ev] at ev'; cases ev'; exact ht
    · exact g1.tmpNo e m ev'
  · rcases get j _ es' with ⟨_, z⟩ | ⟨hj, e⟩
    · cases z
    · exact ⟨e, rfl⟩
  · rw [List.getElem?_set_ne fun z => by rw [z, es'] at es; cases es]; exact es'
/-- what is held is a slot's, locked -/
theorem G.tolk {o : HO} (g : G K (c.hold a o) F H σ env) {i : Nat} (es : env[i]? = some .emp) (ev : σ[i]? = some (some (.ref a))) (h0 : c.H0 a = none) (lo : LkO K F o d) : G K (c.lock i a o) F H σ (env.set i (.lk d)) := by
  have hi : i < env.length := (List.getElem?_eq_some_iff.mp es).1
  have get : ∀ (m : Nat) (s : Slot), (env.set i (.lk d))[m]? = some s → (m = i ∧ s = .lk d) ∨ (m ≠ i ∧ env[m]? = some s) := fun m s e => by
    by_cases hmi : m = i
    · subst hmi; rw [List.getElem?_set_self hi] at e; cases e; exact .inl ⟨rfl, rfl⟩
    · rw [List.getElem?_set_ne (Ne.symm hmi)] at e; exact .inr ⟨hmi, e⟩
  refine ⟨g.sub, by rw [List.length_set]; exact g.len, fun j s o' es' ev' => ?_, fun j k s t w hjk e1 e2 m1 m2 => ?_, g.old, g.fr0, g.frn, g.dom, g.ioh, fun b w e => ?_, g.pin, fun j d' es' => ?_, fun j b e => ?_, g.fz, g.tf⟩
  · rcases get j s es' with ⟨rfl, rfl⟩ | ⟨hj, e⟩
    · trivial
    · exact (g.slot j s o' e ev').ctx rfl rfl
  · rcases get j s e1 with ⟨_, rfl⟩ | ⟨_, e1'⟩
    · cases m1
    · rcases get k t e2 with ⟨_, rfl⟩ | ⟨_, e2'⟩
      · cases m2
      · exact g.dist j k s t w hjk e1' e2' m1 m2
  · obtain ⟨q1, q2, q3⟩ := g.tmp b w e
    refine ⟨q1, q2, fun j s es' m ev' => ?_⟩
    rcases get j s es' with ⟨_, rfl⟩ | ⟨hj, e⟩
    · cases m
    · exact q3 j s e m ev'
  · rcases get j _ es' with ⟨rfl, z⟩ | ⟨hj, e⟩
    · cases z
      exact ⟨a, o, if_pos rfl, ev, upd_same, lo, h0⟩
    · obtain ⟨b, w, q1, q2, q3⟩ := g.lk j d' e
      exact ⟨b, w, by show (if j = i then some a else c.lk j) = some b; rw [if_neg hj]; exact q1, q2, q3⟩
  · have e' : (if j = i then some a else c.lk j) = some b := e
    by_cases hj : j = i
    · rw [if_pos hj] at e'; cases e'
      exact ⟨by show upd c.tmp a o a ≠ none; rw [upd_same]; simp, d, by rw [hj]; exact List.getElem?_set_self hi⟩
    · rw [if_neg hj] at e'
      obtain ⟨q1, d', q2⟩ := g.lkc j b e'
      exact ⟨q1, d', by rw [List.getElem?_set_ne (Ne.symm hj)]; exact q2⟩
theorem G.fromlk {o : HO} (g : G K (c.lock i a o) F H σ env) (es : env[i]? = some (.lk d)) (hl : c.lk i = none) (hL : ∀ j, c.lk j ≠ some a) : G K (c.hold a o) F H σ (env.set i .emp) ∧ σ[i]? = some (some (.ref a)) ∧ LkO K F o d ∧ c.H0 a = none := by
  have hi : i < env.length := (List.getElem?_eq_some_iff.mp es).1
  obtain ⟨a', o', q1, ev, q3, lo, h0⟩ := g.lk i d es
  have e1 : a' = a := by
    have q1' : (if i = i then some a else c.lk i) = some a' := q1
    rw [if_pos rfl] at q1'; cases q1'; rfl
  subst e1
  have e2 : o' = o := by
    have q3' : upd c.tmp a' o a' = some o' := q3
    rw [upd_same] at q3'; cases q3'; rfl
  subst e2
  have get : ∀ (m : Nat) (s : Slot), (env.set i .emp)[m]? = some s → (m = i ∧ s = .emp) ∨ (m ≠ i ∧ env[m]? = some s) := fun m s e => by
    by_cases hmi : m = i
    · subst hmi; rw [List.getElem?_set_self hi] at e; cases e; exact .inl ⟨rfl, rfl⟩
    · rw [List.getElem?_set_ne (Ne.symm hmi)] at e; exact .inr ⟨hmi, e⟩
  refine ⟨⟨g.sub, by rw [List.length_set]; exact g.len, fun j s o2 es' ev' => ?_, fun j k s t w hjk e1 e2 m1 m2 => ?_, g.old, g.fr0, g.frn, g.dom, g.ioh, fun b w e => ?_, g.pin, fun j d' es' => ?_, fun j b e => ?_, g.fz, g.tf⟩, ev, lo, h0⟩
  · rcases get j s es' with ⟨rfl, rfl⟩ | ⟨hj, e⟩
    · trivial
    · exact (g.slot j s o2 e ev').ctx rfl rfl
  · rcases get j s e1 with ⟨_, rfl⟩ | ⟨_, e1'⟩
    · cases m1
    · rcases get k t e2 with ⟨_, rfl⟩ | ⟨_, e2'⟩
      · cases m2
      · exact g.dist j k s t w hjk e1' e2' m1 m2
  · obtain ⟨q1, q2, q3⟩ := g.tmp b w e
    refine ⟨q1, q2, fun j s es' m ev' => ?_⟩
    rcases get j s es' with ⟨_, rfl⟩ | ⟨hj, e⟩
    · cases m
    · exact q3 j s e m ev'
  · rcases get j _ es' with ⟨_, z⟩ | ⟨hj, e⟩
    · cases z
    · obtain ⟨b, w, q1, q2, q3⟩ := g.lk j d' e
      have q1' : (if j = i then some a' else c.lk j) = some b := q1
      rw [if_neg hj] at q1'
      exact ⟨b, w, q1', q2, q3⟩
  · have hj : j ≠ i := fun z => by
      have e' : c.lk j = some b := e
      rw [z, hl] at e'; cases e'
    obtain ⟨q1, d', q2⟩ := g.lkc j b (by show (if j = i then some a' else c.lk j) = some b; rw [if_neg hj]; exact e)
    exact ⟨q1, d', by rw [List.getElem?_set_ne (Ne.symm hj)]; exact q2⟩
/-- one's own dict is locked -/
theorem G.lockO (g : G K c F H σ env) {i : Nat} {kvs : List (D × D)} (es : env[i]? = some (.own (.dict kvs))) (hk : kindOf kvs ≠ 2) : ∃ a kv, σ[i]? = some (some (.ref a)) ∧ H a = some (.dK kv) ∧ c.tmp a = none ∧ c.lk i = none ∧ (∀ j, c.lk j ≠ some a) ∧ c.H0 a = none ∧
    ∀ od, G K (c.lock i a (.frz od (.dK kv))) F (upd H a (.frz od (.dK kv))) σ (env.set i (.lk (.dict kvs))) := by
  obtain ⟨v, ev⟩ := g.val es rfl
  obtain ⟨a, e1, hF, h0, ob⟩ := g.slot i _ _ es ev
  cases e1
  have ht := g.tmpNo es rfl ev
  have hl : c.lk i = none := by
    cases q : c.lk i with
    | none => rfl
    | some b =>
      obtain ⟨_, d', z⟩ := g.lkc i b q
      rw [es] at z; cases z
  have hL : ∀ j, c.lk j ≠ some a := fun j z => (g.lkc j a z).1 ht
  have hi : i < env.length := (List.getElem?_eq_some_iff.mp es).1
  cases ob with
  | dT n e r => exact absurd (r.kind n) hk
  | dK e r =>
    rename_i kv
    refine ⟨a, kv, ev, e, ht, hl, hL, h0, fun od => ?_⟩
    have g1 := (g.grab es ev e).rehold (u := .frz od (.dK kv)) h0 hL
    have g2 := g1.tolk (d := .dict kvs) (List.getElem?_set_self hi) ev h0 (.dK r)
    rw [List.set_set] at g2
    exact g2
theorem G.unlockO {i : Nat} {kv : List (Key × V)} (g : G K (c.lock i a (.frz od (.dK kv))) F H σ env) (es : env[i]? = some (.lk d)) (ht : c.tmp a = none) (hl : c.lk i = none) (hL : ∀ j, c.lk j ≠ some a) :
    H a = some (.frz od (.dK kv)) ∧ G K c F (upd H a (.dK kv)) σ (env.set i (.own d)) := by
  have hi : i < env.length := (List.getElem?_eq_some_iff.mp es).1
  obtain ⟨g1, ev, lo, h0⟩ := g.fromlk es hl hL
  refine ⟨g1.held.1, ?_⟩
  cases lo with
  | dK r =>
    have g2 := (g1.rehold (u := .dK kv) h0 hL).release (i := i) (List.getElem?_set_self hi) ev h0 ht hL (.dK upd_same r)
    rw [List.set_set] at g2
    exact g2
theorem RsOk.unlockO {i : Nat} {o u : HO} {v : V} {r : Rs} {s : Slot} (g : G K (c.lock i a o) F H σ env) (es : env[i]? = some (.lk d)) (h : RsOk K (c.lock i a o) F H σ env v r) : RsOk K c F (upd H a u) σ (env.set i s) v r := by
  cases r with
  | shr d => exact h
  | var j => exact h
  | cst d => exact h
  | new d' =>
    obtain ⟨b, rfl, hF, ⟨h0, ht⟩, ob, hn⟩ := h
    have ht' : upd c.tmp a o b = none := ht
    have hb : b ≠ a := fun z => by rw [z, upd_same] at ht'; cases ht'
    rw [upd_ne hb] at ht'
    refine ⟨b, rfl, hF, ⟨h0, ht'⟩, ob.at (upd_ne hb), fun j s' es' m ev => ?_⟩
    by_cases hj : j = i
    · subst hj
      obtain ⟨a', o', q1, q2, _⟩ := g.lk j d es
      have q1' : (if j = j then some a else c.lk j) = some a' := q1
      rw [if_pos rfl] at q1'; cases q1'
      rw [ev] at q2; cases q2
      exact hb rfl
    · rw [List.getElem?_set_ne (Ne.symm hj)] at es'
      exact hn j s' es' m ev
/-- what is frozen, locked -/
abbrev Ctx.lockF (c : Ctx) (a : Addr) (o : HO) : Ctx := { c with H0 := fun b => if b = a then (match c.H0 a with | none => none | some _ => some o) else c.H0 b, pin := upd c.pin a o }
theorem lockF_none {b : Addr} {o : HO} : (c.lockF a o).H0 b = none ↔ c.H0 b = none := by
  show (if b = a then (match c.H0 a with | none => none | some _ => some o) else c.H0 b) = none ↔ _
  by_cases hb : b = a
  · subst hb; rw [if_pos rfl]; cases c.H0 b <;> simp
  · rw [if_neg hb]
theorem lockF_ne {b : Addr} {o : HO} (h : b ≠ a) : (c.lockF a o).H0 b = c.H0 b := by
  show (if b = a then _ else c.H0 b) = _
  rw [if_neg h]
theorem G.lockF (g : G K c F H σ env) (hF : F a = some u) (mu : Mut (some u)) : G K (c.lockF a (.frz od u)) F (upd H a (.frz od u)) σ env := by
  have at_ : ∀ {b : Addr}, b ≠ a → upd H a (.frz od u) b = H b := fun {b} e => upd_ne e
  have ne : ∀ {b : Addr}, F b = none → b ≠ a := fun {b} e z => by subst z; rw [hF] at e; cases e
  refine ⟨fun b w e => ?_, g.len, fun i sl ov es ev => ?_, g.dist, fun b w e q => ?_, g.fr0, fun b e => (g.frn b e).imp id lockF_none.mpr, fun b q => ?_, fun b q e => ⟨fun z => (g.ioh b q e).1 (lockF_none.mp z), (g.ioh b q e).2⟩, fun b w e => ?_, fun b w e => ?_, fun j d es => ?_, g.lkc, fun b ob w q1 q2 => ?_, fun b xs h => g.tf b xs (upd_nt (fun _ z => by cases z) h)⟩
  · by_cases hb : b = a
    · subst hb; rw [hF] at e; cases e; exact .inr ⟨mu, od, upd_same⟩
    · rcases g.sub b w e with z | ⟨m, ob, z⟩
      · exact .inl ((at_ hb).trans z)
      · exact .inr ⟨m, ob, (at_ hb).trans z⟩
  · have q := g.slot i sl ov es ev
    cases sl with
    | emp => trivial
    | lk d => trivial
    | frz d => exact q
    | own d =>
      obtain ⟨b, e1, e2, e3, ob⟩ := q
      exact ⟨b, e1, e2, lockF_none.mpr e3, ob.at (at_ (ne e2))⟩
    | io d =>
      obtain ⟨b, e1, e2, io⟩ := q
      exact ⟨b, e1, e2, io.at (at_ (ne e2))⟩
  · by_cases hb : b = a
    · subst hb
      have e' : (match c.H0 b with | none => none | some _ => some (HO.frz od u)) = some w := by
        have : (if b = b then (match c.H0 b with | none => none | some _ => some (HO.frz od u)) else c.H0 b) = some w := e
        rwa [if_pos rfl] at this
      cases hc : c.H0 b with
      | none => rw [hc] at e'; cases e'
      | some w' => rw [hc] at e'; cases e'; exact upd_same
    · rw [lockF_ne hb] at e
      exact (at_ hb).trans (g.old b w e q)
  · by_cases hb : b = a
    · subst hb; rw [upd_same]; simp
    · rw [at_ hb]; exact g.dom b fun z => q (lockF_none.mpr z)
  · obtain ⟨q1, q2, q3⟩ := g.tmp b w e
    exact ⟨(at_ (ne q2)).trans q1, q2, q3⟩
  · by_cases hb : b = a
    · subst hb
      have e' : upd c.pin b (.frz od u) b = some w := e
      rw [upd_same] at e'; cases e'
      exact ⟨upd_same, by rw [hF]; simp⟩
    · have e' : upd c.pin a (.frz od u) b = some w := e
      rw [upd_ne hb] at e'
      obtain ⟨q1, q2⟩ := g.pin b w e'
      exact ⟨(at_ hb).trans q1, q2⟩
  · obtain ⟨b, o, q1, q2, q3, q4, q5⟩ := g.lk j d es
    exact ⟨b, o, q1, q2, q3, q4, lockF_none.mpr q5⟩
  · by_cases hb : b = a
    · subst hb
      rw [upd_same] at q1
      exact .inl (by show upd c.pin b (.frz od u) b = _; rw [upd_same]; exact q1)
    · rw [at_ hb] at q1
      rcases g.fz b ob w q1 q2 with z | z
      · exact .inl (by show upd c.pin a (.frz od u) b = _; rw [upd_ne hb]; exact z)
      · exact .inr (by rw [lockF_ne hb]; exact z)
theorem G.unlockF (g0 : G K c F H σ env) (hF : F a = some u) (hH : H a = some u) (mu : Mut (some u)) (s : Same F F') (g : G K (c.lockF a (.frz od u)) F' H' σ' env') : H' a = some (.frz od u) ∧ G K c F' (upd H' a u) σ' env' := by
  have hF' : F' a = some u := s a u hF
  have at_ : ∀ {b : Addr}, b ≠ a → upd H' a u b = H' b := fun {b} e => upd_ne e
  have ne : ∀ {b : Addr}, F' b = none → b ≠ a := fun {b} e z => by subst z; rw [hF'] at e; cases e
  refine ⟨(g.pin a _ (by show upd c.pin a (.frz od u) a = _; rw [upd_same])).1, fun b w e => ?_, g.len, fun i sl ov es ev => ?_, g.dist, fun b w e q => ?_, g.fr0, fun b e => (g.frn b e).imp id lockF_none.mp, fun b q => ?_, fun b q e => g0.ioh b q e, fun b w e => ?_, fun b w e => ?_, fun j d es => ?_, g.lkc, fun b ob w q1 q2 => ?_, fun b xs h => g.tf b xs (upd_nt (fun ys z => by subst z; exact mu.elim) h)⟩
  · by_cases hb : b = a
    · subst hb; rw [hF'] at e; cases e; exact .inl upd_same
    · rcases g.sub b w e with z | ⟨m, ob, z⟩
      · exact .inl ((at_ hb).trans z)
      · exact .inr ⟨m, ob, (at_ hb).trans z⟩
  · have q := g.slot i sl ov es ev
    cases sl with
    | emp => trivial
    | lk d => trivial
    | frz d => exact q
    | own d =>
      obtain ⟨b, e1, e2, e3, ob⟩ := q
      exact ⟨b, e1, e2, lockF_none.mp e3, ob.at (at_ (ne e2))⟩
    | io d =>
      obtain ⟨b, e1, e2, io⟩ := q
      exact ⟨b, e1, e2, io.at (at_ (ne e2))⟩
  · by_cases hb : b = a
    · subst hb
      have := g0.old b w e q
      rw [hH] at this; cases this
      exact upd_same
    · exact (at_ hb).trans (g.old b w (by rw [lockF_ne hb]; exact e) q)
  · by_cases hb : b = a
    · subst hb; rw [upd_same]; simp
    · rw [at_ hb]; exact g.dom b fun z => q (lockF_none.mp z)
  · obtain ⟨q1, q2, q3⟩ := g.tmp b w e
    exact ⟨(at_ (ne q2)).trans q1, q2, q3⟩
  · by_cases hb : b = a
    · subst hb
      have := (g0.pin b w e).1
      rw [hH] at this; cases this
      exact ⟨upd_same, by rw [hF']; simp⟩
    · obtain ⟨q1, q2⟩ := g.pin b w (by show upd c.pin a (.frz od u) b = _; rw [upd_ne hb]; exact e)
      exact ⟨(at_ hb).trans q1, q2⟩
  · obtain ⟨b, o, q1, q2, q3, q4, q5⟩ := g.lk j d es
    exact ⟨b, o, q1, q2, q3, q4, lockF_none.mp q5⟩
  · by_cases hb : b = a
    · subst hb
      rw [upd_same] at q1
      cases q1
      exact False.elim mu
    · rw [at_ hb] at q1
      rcases g.fz b ob w q1 q2 with z | z
      · have z' : upd c.pin a (.frz od u) b = _ := z
        rw [upd_ne hb] at z'; exact .inl z'
      · rw [lockF_ne hb] at z; exact .inr z
theorem RsOk.unlockF {v : V} {r : Rs} {o : HO} (hF' : F' a ≠ none) (h : RsOk K (c.lockF a o) F' H' σ env v r) : RsOk K c F' (upd H' a u) σ env v r := by
  cases r with
  | shr d => exact h
  | var j => exact h
  | cst d => exact h
  | new d =>
    obtain ⟨b, rfl, hF, ⟨h0, ht⟩, ob, hn⟩ := h
    have hb : b ≠ a := fun z => hF' (by rw [← z]; exact hF)
    exact ⟨b, rfl, hF, ⟨lockF_none.mp h0, ht⟩, ob.at (upd_ne hb), hn⟩
/-- a frozen thing that is locked already: that is known from now on -/
abbrev Ctx.pinned (c : Ctx) (a : Addr) (o : HO) : Ctx := { c with pin := upd c.pin a o }
theorem SlotOk.pinned {o : HO} {v : Option V} {sl : Slot} : SlotOk K (c.pinned a o) F H v sl ↔ SlotOk K c F H v sl := by cases sl <;> exact Iff.rfl
theorem G.pinned {o : HO} (g : G K c F H σ env) (hF : F a ≠ none) (hH : H a = some o) : G K (c.pinned a o) F H σ env := by
  refine ⟨g.sub, g.len, fun i sl ov es ev => SlotOk.pinned.mpr (g.slot i sl ov es ev), g.dist, g.old, g.fr0, g.frn, g.dom, g.ioh, g.tmp, fun b w e => ?_, g.lk, g.lkc, fun b ob w q1 q2 => ?_, g.tf⟩
  · by_cases hb : b = a
    · subst hb
      have e' : upd c.pin b o b = some w := e
      rw [upd_same] at e'; cases e'
      exact ⟨hH, hF⟩
    · have e' : upd c.pin a o b = some w := e
      rw [upd_ne hb] at e'
      exact g.pin b w e'
  · by_cases hb : b = a
    · subst hb
      rw [hH] at q1; cases q1
      exact .inl (by show upd c.pin b _ b = _; rw [upd_same])
    · exact (g.fz b ob w q1 q2).imp (fun z => by show upd c.pin a o b = _; rw [upd_ne hb]; exact z) id
theorem G.unpinned {o : HO} (g0 : G K c F H σ env) (hH : H a = some o) (hz : ∀ ob w, o = .frz ob w → F' a = some w → c.pin a = some o ∨ c.H0 a = some o) (g : G K (c.pinned a o) F' H' σ' env') : G K c F' H' σ' env' := by
  refine ⟨g.sub, g.len, fun i sl ov es ev => SlotOk.pinned.mp (g.slot i sl ov es ev), g.dist, g.old, g.fr0, g.frn, g.dom, g.ioh, g.tmp, fun b w e => ?_, g.lk, g.lkc, fun b ob w q1 q2 => ?_, g.tf⟩
  · by_cases hb : b = a
    · subst hb
      have := (g0.pin b w e).1
      rw [hH] at this; cases this
      exact g.pin b o (by show upd c.pin b o b = _; rw [upd_same])
    · exact g.pin b w (by show upd c.pin a o b = _; rw [upd_ne hb]; exact e)
  · rcases g.fz b ob w q1 q2 with z | z
    · by_cases hb : b = a
      · subst hb
        have z' : upd c.pin b o b = _ := z
        rw [upd_same] at z'
        cases z'
        exact hz ob w rfl q2
      · have z' : upd c.pin a o b = _ := z
        rw [upd_ne hb] at z'
        exact .inl z'
    · exact .inr z
end

/-! ### what a name walks: a dict's keys, or what iE walks -/
def iN (i : Nat) : I := fun e => match e[i]? with
  | some (.lk (.dict kvs)) => if kindOf kvs != 2 then some (keysD kvs, none, e) else none
  | some (.frz (.dict kvs)) => if kindOf kvs != 2 then some (keysD kvs, none, e) else none
  | _ => iE (eV i) e
/-- a dict that is frozen is locked -/
def preN (K : PySem.W.Frag) (i : Nat) : Pre := fun c F H σ env => ∀ kvs, env[i]? = some (.frz (.dict kvs)) → kindOf kvs ≠ 2 → ∃ a ob kv, σ[i]? = some (some (.ref a)) ∧ c.pin a = some (.frz ob (.dK kv)) ∧ RpK K F kv kvs
def tVar (i : Nat) : TE := fun σ H Q => ∃ v, σ[i]? = some (some v) ∧ Q v H
def tiN (K : PySem.W.Frag) (i : Nat) : TI := fun σ H R => (iList K (tE K (eV i)) σ H R ∨ iTup K (tE K (eV i)) σ H R ∨ iStr (tE K (eV i)) σ H R) ∨ iKeys (tVar i) σ H R
theorem walkD_keys {K : PySem.W.Frag} {c : Ctx} {F : Hp} {a : Addr} {ob : Obj} {kv : List (Key × V)} {kvs : List (D × D)} (r : RpK K F kv kvs) (hs : ∀ c2 F2 H σ env, CtxLe c c2 → G K c2 F2 H σ env → Same F F2 → H a = some (.frz ob (.dK kv))) : WalkD K c F (keysD kvs) (Itk a ob kv) := by
  have hl : (keysD kvs).length = kv.length := by unfold keysD; rw [List.length_map, r.length]
  have rk := r.keys
  refine ⟨_, _, by rw [hl]; exact walk_keys, hs, fun i H x H' c2 F2 σ env hi hc g s y => ?_⟩
  obtain ⟨rfl, k, v, hk, rfl⟩ := y
  have hk' : (kv.map fun p => kV p.1)[i]? = some (kV k) := by rw [List.getElem?_map, hk]; rfl
  obtain ⟨d, hd, rd⟩ := rk.at hk'
  exact ⟨d, F2, hd, g, Same.refl F2, rd.mono s, fun _ _ _ => rfl⟩
theorem itN {X : Cx} (i : Nat) : ItOk X.K (iN i) (tiN X.K i) (preN X.K i) := ⟨fun {σ H R c F env env' items l} g hp hf q => by
  unfold iN at hf
  split at hf
  · rename_i kvs es
    split at hf
    · rename_i hk
      cases hf
      obtain ⟨a, o, k1, k2, k3, k4, k5⟩ := g.lk i _ es
      have h1 := (g.tmp a o k3).1
      refine .inr ⟨_, k2, a, ?_⟩
      cases k4 with
      | dK r =>
        rename_i ob kv
        refine ⟨ob, rfl, .inl ⟨kv, h1, q _ c F H rfl g (Same.refl F) (walkD_keys r fun c2 F2 H2 σ2 env2 hc g2 s2 => (g2.tmp a _ (hc.1 i a _ k1 k3)).1) fun z => ?_⟩⟩
        unfold keysD; rw [List.length_map, ← r.length]; exact z.2.2 a _ (.inr ⟨ob, h1⟩)
    · cases hf
  · rename_i kvs es
    split at hf
    · rename_i hk
      cases hf
      obtain ⟨a, ob, kv, k1, k2, k3⟩ := hp kvs es (by simpa using hk)
      have h1 := (g.pin a _ k2).1
      refine .inr ⟨_, k1, a, ob, rfl, .inl ⟨kv, h1, q _ c F H rfl g (Same.refl F) (walkD_keys k3 fun c2 F2 H2 σ2 env2 hc g2 s2 => (g2.pin a _ (hc.2 a _ k2)).1) fun z => ?_⟩⟩
      unfold keysD; rw [List.length_map, ← k3.length]; exact z.2.2 a _ (.inr ⟨ob, h1⟩)
    · cases hf
  · exact .inl (ie_ok (X := X) ⟨c, F, env, items, l, env', g, hf, q⟩)⟩

def sWith (i : Nat) (f : S) : S := fun e => match e[i]? with
  | some (.own (.dict kvs)) => if kindOf kvs != 2 then do
      let o ← f (e.set i (.lk (.dict kvs)))
      unlockO (some i) o
    else none
  | _ => f e
def eWith (i : Nat) (f : E) : E := fun e => match e[i]? with
  | some (.own (.dict kvs)) => if kindOf kvs != 2 then do
      let (r, e1) ← f (e.set i (.lk (.dict kvs)))
      let e2 ← unlockE (some i) e1
      pure (r, e2)
    else none
  | _ => f e
theorem unlockE_at {i : Nat} {e e' : Ev.Env} (h : unlockE (some i) e = some e') : ∃ d, e[i]? = some (.lk d) ∧ e' = e.set i (.own d) := by
  simp only [unlockE] at h
  split at h
  · rename_i d es; cases h; exact ⟨d, es, rfl⟩
  · cases h
/-- a frozen dict at a slot, as it stands -/
theorem frzD {K : PySem.W.Frag} {c : Ctx} {F H : Hp} {σ : L2.St} {env : Ev.Env} {i : Nat} {kvs : List (D × D)} (g : G K c F H σ env) (es : env[i]? = some (.frz (.dict kvs))) (hk : kindOf kvs ≠ 2) :
    ∃ a kv, σ[i]? = some (some (.ref a)) ∧ RpK K F kv kvs ∧ F a ≠ none ∧ ((F a = some (.dK kv) ∧ H a = some (.dK kv)) ∨
      ∃ ob, H a = some (.frz ob (.dK kv)) ∧ ∀ F', Same F F' → ∀ ob' w, HO.frz ob (.dK kv) = .frz ob' w → F' a = some w → c.pin a = some (.frz ob (.dK kv)) ∨ c.H0 a = some (.frz ob (.dK kv))) := by
  obtain ⟨v, ev⟩ := g.val es rfl
  obtain ⟨v', e1, r⟩ := g.slot i _ _ es ev
  cases e1
  cases r with
  | dT n e r => exact absurd (r.kind n) hk
  | dK e r =>
    rename_i a kv
    rcases e with e | ⟨ob, e⟩
    · refine ⟨a, kv, ev, r, by rw [e]; simp, ?_⟩
      rcases g.sub a _ e with q | ⟨m, ob, q⟩
      · exact .inl ⟨e, q⟩
      · exact .inr ⟨ob, q, fun F' s ob' w hw hF => by cases hw; exact g.fz a ob _ q e⟩
    · refine ⟨a, kv, ev, r, by rw [e]; simp, ?_⟩
      rcases g.sub a _ e with q | ⟨m, _⟩
      · exact .inr ⟨ob, q, fun F' s ob' w hw hF => by
          cases hw
          rw [s a _ e] at hF
          cases hF⟩
      · exact m.elim
section
variable {X : Cx} {i : Nat}
theorem js_with {st : Stmt} {f : S} (h : PS X st (tSp X.K (preN X.K i) f)) : JS X st (sWith i f) := (h.or (ps_lock h)).imp fun Dn σ H w => by
  obtain ⟨c, F, env, o, g, hf, q⟩ := w
  unfold sWith at hf
  split at hf
  · rename_i kvs es
    split at hf
    · rename_i hk
      simp only [bind, Option.bind_eq_some_iff] at hf
      obtain ⟨o1, h1, h2⟩ := hf
      obtain ⟨a, kv, ev, hH, ht, hl, hL, h0, gL⟩ := g.lockO es (by simpa using hk)
      have hi : i < env.length := (List.getElem?_eq_some_iff.mp es).1
      refine .inr ⟨a, .dK kv, hH, trivial, fun od => ⟨_, F, _, o1, gL od, fun kvs' e _ => ?_, h1, ?_⟩⟩
      · rw [List.getElem?_set_self hi] at e; cases e
      · cases o1 with
        | nx e1 =>
          obtain ⟨e2, h3, e4⟩ := Option.map_eq_some_iff.mp (show (unlockE (some i) e1).map Out.nx = some o from h2)
          subst e4
          obtain ⟨d, ed, rfl⟩ := unlockE_at h3
          exact fun σ' F' H' g' s' => let ⟨z1, z2⟩ := g'.unlockO ed ht hl hL; ⟨z1, q σ' F' _ z2 s'⟩
        | bk e1 =>
          obtain ⟨e2, h3, e4⟩ := Option.map_eq_some_iff.mp (show (unlockE (some i) e1).map Out.bk = some o from h2)
          subst e4
          obtain ⟨d, ed, rfl⟩ := unlockE_at h3
          exact fun σ' F' H' g' s' => let ⟨z1, z2⟩ := g'.unlockO ed ht hl hL; ⟨z1, q σ' F' _ z2 s'⟩
        | ct e1 =>
          obtain ⟨e2, h3, e4⟩ := Option.map_eq_some_iff.mp (show (unlockE (some i) e1).map Out.ct = some o from h2)
          subst e4
          obtain ⟨d, ed, rfl⟩ := unlockE_at h3
          exact fun σ' F' H' g' s' => let ⟨z1, z2⟩ := g'.unlockO ed ht hl hL; ⟨z1, q σ' F' _ z2 s'⟩
        | rt r e1 =>
          obtain ⟨e2, h3, e4⟩ := Option.map_eq_some_iff.mp (show (unlockE (some i) e1).map (Out.rt r) = some o from h2)
          subst e4
          obtain ⟨d, ed, rfl⟩ := unlockE_at h3
          exact fun v σ' F' H' g' s' r' => let ⟨z1, z2⟩ := g'.unlockO ed ht hl hL; ⟨z1, q v σ' F' _ z2 s' (r'.unlockO g' ed)⟩
    · cases hf
  · rename_i hno
    by_cases hfr : ∃ kvs, env[i]? = some (.frz (.dict kvs)) ∧ kindOf kvs ≠ 2
    · obtain ⟨kvs, es, hk⟩ := hfr
      obtain ⟨a, kv, ev, r, hFn, hcase⟩ := frzD g es hk
      have mk : ∀ {c' : Ctx} {H' : Hp} {ob : Obj}, c'.pin a = some (.frz ob (.dK kv)) → preN X.K i c' F H' σ env := fun {c' H' ob} hp kvs' e _ => by
        rw [es] at e; cases e
        exact ⟨a, ob, kv, ev, hp, r⟩
      rcases hcase with ⟨hF, hH⟩ | ⟨ob, hH, hz⟩
      · refine .inr ⟨a, .dK kv, hH, trivial, fun od => ⟨_, F, env, o, g.lockF hF trivial, mk (by show upd c.pin a _ a = _; rw [upd_same]), hf, ?_⟩⟩
        cases o with
        | nx e1 => exact fun σ' F' H' g' s' => let ⟨z1, z2⟩ := g.unlockF hF hH trivial s' g'; ⟨z1, q σ' F' _ z2 s'⟩
        | bk e1 => exact fun σ' F' H' g' s' => let ⟨z1, z2⟩ := g.unlockF hF hH trivial s' g'; ⟨z1, q σ' F' _ z2 s'⟩
        | ct e1 => exact fun σ' F' H' g' s' => let ⟨z1, z2⟩ := g.unlockF hF hH trivial s' g'; ⟨z1, q σ' F' _ z2 s'⟩
        | rt rr e1 => exact fun v σ' F' H' g' s' r' => let ⟨z1, z2⟩ := g.unlockF hF hH trivial s' g'; ⟨z1, q v σ' F' _ z2 s' (r'.unlockF (by rw [s' a _ hF]; simp))⟩
      · refine .inl ⟨_, F, env, o, g.pinned hFn hH, mk (by show upd c.pin a _ a = _; rw [upd_same]), hf, ?_⟩
        cases o with
        | nx e1 => exact fun σ' F' H' g' s' => q σ' F' H' (g.unpinned hH (hz F' s') g') s'
        | bk e1 => exact fun σ' F' H' g' s' => q σ' F' H' (g.unpinned hH (hz F' s') g') s'
        | ct e1 => exact fun σ' F' H' g' s' => q σ' F' H' (g.unpinned hH (hz F' s') g') s'
        | rt rr e1 => exact fun v σ' F' H' g' s' r' => q v σ' F' H' (g.unpinned hH (hz F' s') g') s' (by cases rr <;> exact r')
    · exact .inl ⟨c, F, env, o, g, fun kvs e hk => absurd ⟨kvs, e, hk⟩ hfr, hf, q⟩
theorem je_with {ex : Expr} {f : E} (h : PE X ex (tEp X.K (preN X.K i) f)) : JE X ex (eWith i f) := (h.or (pe_lock h)).imp fun σ H Q w => by
  obtain ⟨c, F, env, res, env', g, hf, q⟩ := w
  unfold eWith at hf
  split at hf
  · rename_i kvs es
    split at hf
    · rename_i hk
      simp only [bind, Option.bind_eq_some_iff, pure, Option.some.injEq] at hf
      obtain ⟨⟨r1, e1⟩, h1, e2, h3, e⟩ := hf
      cases e
      obtain ⟨a, kv, ev, hH, ht, hl, hL, h0, gL⟩ := g.lockO es (by simpa using hk)
      have hi : i < env.length := (List.getElem?_eq_some_iff.mp es).1
      refine .inr ⟨a, .dK kv, hH, trivial, fun od => ⟨_, F, _, r1, e1, gL od, fun kvs' e _ => ?_, h1, ?_⟩⟩
      · rw [List.getElem?_set_self hi] at e; cases e
      · obtain ⟨d, ed, rfl⟩ := unlockE_at h3
        exact fun v F' H' g' s' r' => let ⟨z1, z2⟩ := g'.unlockO ed ht hl hL; ⟨z1, q v F' _ z2 s' (r'.unlockO g' ed)⟩
    · cases hf
  · rename_i hno
    by_cases hfr : ∃ kvs, env[i]? = some (.frz (.dict kvs)) ∧ kindOf kvs ≠ 2
    · obtain ⟨kvs, es, hk⟩ := hfr
      obtain ⟨a, kv, ev, r, hFn, hcase⟩ := frzD g es hk
      have mk : ∀ {c' : Ctx} {H' : Hp} {ob : Obj}, c'.pin a = some (.frz ob (.dK kv)) → preN X.K i c' F H' σ env := fun {c' H' ob} hp kvs' e _ => by
        rw [es] at e; cases e
        exact ⟨a, ob, kv, ev, hp, r⟩
      rcases hcase with ⟨hF, hH⟩ | ⟨ob, hH, hz⟩
      · exact .inr ⟨a, .dK kv, hH, trivial, fun od => ⟨_, F, env, res, env', g.lockF hF trivial, mk (by show upd c.pin a _ a = _; rw [upd_same]), hf, fun v F' H' g' s' r' => let ⟨z1, z2⟩ := g.unlockF hF hH trivial s' g'; ⟨z1, q v F' _ z2 s' (r'.unlockF (by rw [s' a _ hF]; simp))⟩⟩⟩
      · exact .inl ⟨_, F, env, res, env', g.pinned hFn hH, mk (by show upd c.pin a _ a = _; rw [upd_same]), hf, fun v F' H' g' s' r' => q v F' H' (g.unpinned hH (hz F' s') g') s' (by cases res <;> exact r')⟩
    · exact .inl ⟨c, F, env, res, env', g, fun kvs e hk => absurd ⟨kvs, e, hk⟩ hfr, hf, q⟩
/-- the iterable is a name -/
theorem pi_N {tg : Expr} {x : Str} {pos : Pos} (i : Nat) (hN : X.N[i]? = some x := by rfl) (hv : Vis X.env.scope x := by first | exact Or.inl rfl | exact Or.inr (Or.inl rfl) | exact Or.inr (Or.inr rfl)) (hd : (x == ("__debug__" : Str)) = false := by decide)
    (hcd : (x == ("__classdict__" : Str)) = false := by decide) : PI X tg (.Name x pos) (tiN X.K i) :=
  (((pi_list (je_v i hN hv hd hcd)).or ((pi_tup (je_v i hN hv hd hcd)).or (pi_str (je_v i hN hv hd hcd)))).or (pi_keys (pe_var (pos := pos) hN hv hd hcd))).imp fun σ H R w => w
end
end Ev
set_option Elab.async false
set_option linter.all false
set_option maxRecDepth 100000
set_option maxHeartbeats 1000000
/-! Ev26: a, b = x, y. -/
namespace Ev
open PySem PySem.Spec PyProof.Rows L2
section
variable {K : PySem.W.Frag} {c : Ctx} {F F' H H' : Hp} {σ : L2.St} {env env' : Env} {d : D} {a : Addr} {o : HO}
/-- a new object stays in the hands -/
theorem G.keepNew (g : G K c F H σ env) (hF : F a = none) (ht : c.tmp a = none) (hH : H a = some o) (hn : ∀ (i : Nat) (s : Slot), env[i]? = some s → s.mine = true → σ[i]? ≠ some (some (.ref a))) : G K (c.hold a o) F H σ env := by
  refine ⟨g.sub, g.len, fun j s o' es' ev' => (g.slot j s o' es' ev').ctx rfl rfl, g.dist, g.old, g.fr0, g.frn, g.dom, g.ioh, fun b w e => ?_, g.pin, fun j d' es' => ?_, fun j b e => ?_, g.fz, g.tf⟩
  · by_cases hb : b = a
    · subst hb
      have e' : upd c.tmp b o b = some w := e
      rw [upd_same] at e'; cases e'
      exact ⟨hH, hF, hn⟩
    · have e' : upd c.tmp a o b = some w := e
      rw [upd_ne hb] at e'
      exact g.tmp b w e'
  · obtain ⟨b, w, q1, q2, q3, q4⟩ := g.lk j d' es'
    refine ⟨b, w, q1, q2, ?_, q4⟩
    show upd c.tmp a o b = some w
    rw [upd_ne fun z => by rw [z, ht] at q3; cases q3]; exact q3
  · obtain ⟨q1, q2⟩ := g.lkc j b e
    refine ⟨?_, q2⟩
    show upd c.tmp a o b ≠ none
    by_cases hb : b = a
    · rw [hb, upd_same]; simp
    · rw [upd_ne hb]; exact q1
theorem RsOk.unhold {v : V} {r : Rs} (h : RsOk K (c.hold a o) F H σ env v r) : RsOk K c F H σ env v r ∧ ∀ d, r = .new d → v ≠ .ref a := by
  cases r with
  | shr d => exact ⟨h, fun _ z => by cases z⟩
  | var j => exact ⟨h, fun _ z => by cases z⟩
  | cst d => exact ⟨h, fun _ z => by cases z⟩
  | new d =>
    obtain ⟨b, rfl, hF, ⟨h0, ht⟩, ob, hn⟩ := h
    have ht' : upd c.tmp a o b = none := ht
    have hb : b ≠ a := fun z => by rw [z, upd_same] at ht'; cases ht'
    rw [upd_ne hb] at ht'
    exact ⟨⟨b, rfl, hF, ⟨h0, ht'⟩, ob, hn⟩, fun _ _ z => by cases z; exact hb rfl⟩
end
/-- the one that is kept as new, or frozen -/
def unVar (r : Rs) (e : Ev.Env) : Option (Rs × Ev.Env) := match r with
  | .new d => some (.new d, e)
  | r => (take r e).map fun p => (.shr p.1, p.2)
def putSl : Rs → Slot
  | .new d => .own d
  | .shr d => .frz d
  | _ => .emp
def sPar2 (i j : Nat) (fa fb : E) : S := fun e => do
  let (ra, e1) ← fa e
  let (ra', e2) ← unVar ra e1
  let (rb, e3) ← fb e2
  let (rb', e4) ← unVar rb e3
  if ioAt e4 i || ioAt e4 j then none else pure (.nx ((e4.set i (putSl ra')).set j (putSl rb')))
theorem unVar_ok {K : PySem.W.Frag} {c : Ctx} {F H : Hp} {σ : L2.St} {env env' : Ev.Env} {v : V} {r r' : Rs} (g : G K c F H σ env) (h : RsOk K c F H σ env v r) (l : unVar r env = some (r', env')) : ∃ F', G K c F' H σ env' ∧ Same F F' ∧ RsOk K c F' H σ env' v r' ∧ ((∃ d, r' = .new d) ∨ ∃ d, r' = .shr d) := by
  unfold unVar at l
  split at l
  · cases l; exact ⟨F, g, Same.refl F, h, .inl ⟨_, rfl⟩⟩
  · obtain ⟨⟨d, e⟩, h1, h2⟩ := Option.map_eq_some_iff.mp l
    cases h2
    obtain ⟨F', g', s', r'⟩ := take_ok g h h1
    exact ⟨F', g', s', r', .inr ⟨_, rfl⟩⟩
section
variable {X : Cx} {b c : Expr} {fa fb : E} {pos : Pos}
theorem js_par2 {i j : Nat} {x y : Str} {px py pt : Pos} {kt k2 pt2} (hc : X.calm = true) (hN : X.N.Nodup) (ha : JE X b fa) (hb : JE X c fb) (hi : X.N[i]? = some x := by rfl) (hj : X.N[j]? = some y := by rfl) (hij : i ≠ j := by decide)
    (hx : X.env.scope.names.lookup x = some .local := by rfl) (hy : X.env.scope.names.lookup y = some .local := by rfl)
    (hw : swappedStores [.Tuple [.Name x px, .Name y py] kt pt] (.Tuple [b, c] k2 pt2) X.env = pure (some [x, y]) := by rfl)
    (hs : swapsWithSole [.Tuple [.Name x px, .Name y py] kt pt] (.Tuple [b, c] k2 pt2) pos.line X.env = pure false := by rfl)
    (s1 : starEach [b, c] X.env = (false, eval b X.env) :: starEach [c] X.env := by rfl) (s2 : starEach [c] X.env = (false, eval c X.env) :: starEach [] X.env := by rfl) :
    JS X (.Assign [.Tuple [.Name x px, .Name y py] kt pt] (.Tuple [b, c] k2 pt2) pos) (sPar2 i j fa fb) := (ps_par hc hN hi hj hij hx hy (pa_cons ha (pa_cons hb pa_nil s2) s1) hw hs).imp fun Dn σ H w => by
  obtain ⟨c, F, env, o, g, hf, q⟩ := w
  simp only [sPar2, bind, Option.bind_eq_some_iff] at hf
  obtain ⟨⟨ra, e1⟩, h1, ⟨ra', e2⟩, h2, ⟨rb, e3⟩, h3, ⟨rb', e4⟩, h4, h5⟩ := hf
  dsimp only at h5
  split at h5
  · cases h5
  · rename_i hio
    cases h5
    simp only [Bool.or_eq_true, not_or, Bool.not_eq_true] at hio
    refine ⟨c, F, env, ra, e1, g, h1, fun v F1 H1 g1 s1 r1 => ?_⟩
    obtain ⟨F2, g2, s2, r2, k2⟩ := unVar_ok g1 r1 h2
    rcases k2 with ⟨d, rfl⟩ | ⟨d, rfl⟩
    · -- the first is new: it stays in the hands while the second is made
      obtain ⟨a, rfl, hF, h0, ob, hn⟩ := r2
      obtain ⟨u, hu, _⟩ := ob.there
      have hlk : ∀ i, c.lk i ≠ some a := fun i z => (g2.lkc i a z).1 h0.2
      refine ⟨_, F2, e2, rb, e3, g2.keepNew hF h0.2 hu hn, h3, fun v2 F3 H3 g3 s3 r3 => ?_⟩
      obtain ⟨F4, g4, s4, r4, k4⟩ := unVar_ok g3 r3 h4
      obtain ⟨m1, m2, m3⟩ := g4.held
      have g5 := g4.drop h0.2 hlk
      obtain ⟨r5, n5⟩ := r4.unhold
      have ob5 : Ob _ F4 H3 a d := (ob.mono (s3.trans s4)).at (by rw [m1, hu])
      have ss := ((s1.trans s2).trans s3).trans s4
      have g6 : G X.K c F4 H3 (σ.set i (some (.ref a))) (e4.set i (.own d)) := g5.storeOwn ⟨a, rfl, m2, h0, ob5, m3⟩ hio.1
      have hio2 : ioAt (e4.set i (.own d)) j = false := by
        have := hio.2
        unfold ioAt at this ⊢
        rw [List.getElem?_set_ne hij]; exact this
      rcases k4 with ⟨d', rfl⟩ | ⟨d', rfl⟩
      · obtain ⟨b', rfl, q1, q2, q3, q4⟩ := r5
        refine ⟨_, _, rfl, q _ F4 H3 (g6.storeOwn ⟨b', rfl, q1, q2, q3, fun k s es m ev => ?_⟩ hio2) ss⟩
        by_cases hk : k = i
        · subst hk
          by_cases hl : k < σ.length
          · rw [List.getElem?_set_self hl] at ev
            exact n5 d' rfl (Option.some.inj (Option.some.inj ev)).symm
          · rw [List.getElem?_eq_none_iff.mpr (by rw [List.length_set]; omega)] at ev; cases ev
        · rw [List.getElem?_set_ne (Ne.symm hk)] at es ev
          exact q4 k s es m ev
      · exact ⟨_, _, rfl, q _ F4 H3 (g6.storeFrz r5 hio2) ss⟩
    · refine ⟨c, F2, e2, rb, e3, g2, h3, fun v2 F3 H3 g3 s3 r3 => ?_⟩
      obtain ⟨F4, g4, s4, r4, k4⟩ := unVar_ok g3 r3 h4
      have ss := ((s1.trans s2).trans s3).trans s4
      have g6 : G X.K c F4 H3 (σ.set i (some v)) (e4.set i (.frz d)) := g4.storeFrz (Rp.mono (s3.trans s4) r2) hio.1
      have hio2 : ioAt (e4.set i (.frz d)) j = false := ioAt_frz hio.2
      rcases k4 with ⟨d', rfl⟩ | ⟨d', rfl⟩
      · obtain ⟨b', rfl, q1, q2, q3, q4⟩ := r4
        refine ⟨_, _, rfl, q _ F4 H3 (g6.storeOwn ⟨b', rfl, q1, q2, q3, fun k s es m ev => ?_⟩ hio2) ss⟩
        by_cases hk : k = i
        · subst hk
          by_cases hl : k < e4.length
          · rw [List.getElem?_set_self hl] at es; cases es; cases m
          · rw [List.getElem?_eq_none_iff.mpr (by rw [List.length_set]; omega)] at es; cases es
        · rw [List.getElem?_set_ne (Ne.symm hk)] at es ev
          exact q4 k s es m ev
      · exact ⟨_, _, rfl, q _ F4 H3 (g6.storeFrz r4 hio2) ss⟩
end
end Ev
set_option Elab.async false
set_option linter.all false
set_option maxRecDepth 100000
set_option maxHeartbeats 1000000
/-! Ev27: sorted(d), list(d), whatever the keys. -/
namespace Ev
open PySem PySem.Spec PyProof.Rows L2
/-- the row of a dict's keys -/
def KeyRow (H : Hp) (a : Addr) (ks : List V) : Prop := (∃ kvs, Rd H a (.dK kvs) ∧ ks = kvs.map fun kv => kV kv.1) ∨ ∃ kvs bs, Rd H a (.dT kvs) ∧ IsKeys H kvs bs ∧ ks = bs.map V.ref
section
variable {K : PySem.W.Frag} {F H : Hp} {v : V} {a : Addr}
theorem isKeys_rp (tf : Tf F H) : ∀ {kvs : List (List Key × V)} {bs : List Addr} {ds : List (D × D)}, IsKeys H kvs bs → RpT K F kvs ds → RpA K F (bs.map V.ref) (keysD ds)
  | [], _, _, .nil, .nil => .nil
  | (k, _) :: _, _, _, .cons h t, .cons r q => .cons (.tup (.inl (tf _ _ h)) (keys_rp k)) (isKeys_rp tf t q)
where keys_rp : ∀ ks : List Key, RpA K F (ks.map kV) (ks.map kD)
  | [] => .nil
  | k :: ks => .cons (kV_kD k) (keys_rp ks)
end
section
variable {X : Cx} {pins : List (Addr × Obj)} {σ : L2.St} {H : Hp} {s : Shared} {a : Addr}
/-- a dict is a source of its keys -/
theorem keys_src (I : Inv X pins σ H s) (hd : (∃ kvs, Rd H a (.dK kvs)) ∨ ∃ kvs, Rd H a (.dT kvs)) : ∃ n P OK, PySem.W.KdlSrc X.prog X.w "dict" a a n P OK ∧ OK s.heap ∧ n ≤ sizeLine ∧
    ∀ acc : Array Value, ItemsOf P acc n → ∃ ks, KeyRow H a ks ∧ Vals ks acc.toList := by
  rcases hd with ⟨kvs, hd⟩ | ⟨kvs, hd⟩
  · obtain ⟨z, lo, vs, rel, dd⟩ := dk_rd I.hok hd
    obtain ⟨ep, hat⟩ := dd.dictAt
    have ek : (kvs.map fun kv => kV kv.1) = vs.map fun p => kV p.1 := by
      have e := congrArg (List.map kV) rel.keys
      rw [List.map_map, List.map_map] at e
      exact e
    refine ⟨_, _, _, PySem.W.kdl_dict (knd := mixKind X.prog X.w) (kvs := vs) (ep := ep) lo, hat, by rw [← rel.length]; exact z, fun acc hacc => ⟨_, .inl ⟨kvs, hd, rfl⟩, ?_⟩⟩
    rw [ek]
    exact keys_at (by rw [Array.length_toList]; exact hacc.1) fun j v e => hacc.2 j v (by rw [← Array.getElem?_toList]; exact e)
  · obtain ⟨z, hs, ks, pr, o, es, ep, ho, hx, hdt, he, hn⟩ := (show ObjOk X.prog X.w H s.heap a (.dT kvs) from hd.ok I.hok)
    have l1 : es.size = ks.length := size_of_entries he
    have l2 : kvs.length = ks.length := Paired.length pr
    refine ⟨_, _, _, kdl_raw hs hx hdt, ho, by omega, fun acc it => ⟨_, .inr ⟨kvs, _, hd, isKeys_of pr, rfl⟩, ?_⟩⟩
    have ea : acc.toList = ks.map fun x => Value.ref x.2.1 := by
      have hl : acc.toList.length = ks.length := by rw [Array.length_toList, it.1]; exact l1
      apply List.ext_getElem?
      intro j
      rw [List.getElem?_map]
      cases hj : acc.toList[j]? with
      | none =>
        have h1 := List.getElem?_eq_none_iff.mp hj
        rw [List.getElem?_eq_none (by omega)]
        all_goals rfl
      | some v =>
        obtain ⟨en, hen, hv⟩ := it.2 j v (by rw [← Array.getElem?_toList]; exact hj)
        have qe := entry_at he j
        rw [hen] at qe
        cases hb : ks[j]? with
        | none =>
          rw [hb] at qe
          exact nomatch (show some en = none from qe)
        | some b =>
          rw [hb] at qe
          have e2 : en = entryOfKey (tupleKind (mixKind X.prog X.w)) b := Option.some.inj qe
          rw [hv, e2]
          all_goals rfl
    have eb : acc.toList = (ks.map fun x => x.2.1).map Value.ref := by rw [ea, List.map_map]; all_goals rfl
    rw [eb]; exact vals_refs _
def rSortK (K : PySem.W.Frag) : List V → Hp → VK → Prop := fun xs H Q => ∃ (a : Addr) (F : Hp) (ds : List D), xs = [.ref a] ∧ ((∃ kvs, Rd H a (.dK kvs)) ∨ ∃ kvs, Rd H a (.dT kvs)) ∧ Sub F H ∧ (∀ ks, KeyRow H a ks → RpA K F ks ds) ∧ sortOk ds = true ∧
  ∀ ys p, RpA K F ys (dSort ds) → H p = none → Q (.ref p) (upd H p (.lst ys))
/-- sorted(d) -/
theorem cr_sortK (hu : Rm X) (hcalm : X.calm = true) : CallR X (.builtin "sorted") (rSortK X.K) := by
  intro pins s σ H xs us Q I r q
  obtain ⟨a, F, ds, rfl, hd, sF, hrow, ok, q⟩ := q
  obtain ⟨u, eu, rx⟩ := vals1 r
  subst eu
  cases rx
  obtain ⟨p1, p2, p3, p4⟩ := sortOk_un ok
  obtain ⟨n, P, OK, Ks, hok, hn, hks⟩ := keys_src I hd
  refine Calls.call_function_entry PyProof.Rows.kind_sorted PyProof.Rows.plain_sorted PyProof.Rows.entry_sorted (PyProof.Rows.args_sorted1 _) ?_
  unfold Builtin.«sorted»
  refine wpAny_bind (m := checkCount "sorted" 1 1 _) (wpAny_pure ?_)
  refine wpAny_bind (PySem.W.kdu_collect (A := X.A.in1) Ks (I.ok.hd hcalm) hok hn fun h' tk acc hk hacc => ?_)
  obtain ⟨ks, krow, rv⟩ := hks acc hacc
  have rr := hrow ks krow
  have I1 : Inv X pins σ H { s with heap := h', toks := tk } := I.kept hk
  have hal : acc.toList.length = n := by rw [Array.length_toList]; exact hacc.1
  refine wpAny_bind (wpAny_newList ?_ (by rw [hal]; exact hn))
  have hoL : (h'.push (seqObj "list" acc.toList.toArray 0)).get? h'.objs.size = some (seqObj "list" acc.toList.toArray 0) := Heap.get?_push_size _ rfl
  show wpAny _ _ _ _ _ { s with heap := h'.push (seqObj "list" acc.toList.toArray 0), toks := tk }
  obtain ⟨as, hr⟩ := (rr.sub sF).reads I1 p1 rv
  have hmap : ds.map id = ds := by simp
  have e0 := each_of rr rv
  have er : PySem.W.EachIs (fun v b => ∃ as, Reads h' v (id b) as) acc.toList ds := PySem.W.readsAll_each id (by rw [hmap]; exact hr)
  have hold : ∀ b o, h'.get? b = some o → (PySem.W.sortingHeap (h'.push (seqObj "list" acc.toList.toArray 0)) h'.objs.size acc.toList).get? b = some o := fun b o e => by
    exact PySem.W.sortingHeap_old (Nat.ne_of_lt (Heap.lt_size e)) (Heap.get?_push_of_some _ e)
  have er' : PySem.W.EachIs (fun v b => ∃ as, Reads (PySem.W.sortingHeap (h'.push (seqObj "list" acc.toList.toArray 0)) h'.objs.size acc.toList) v (id b) as) acc.toList ds := er.mono fun _ _ ⟨as, r⟩ => ⟨as, PyProof.Rows.Reads.keeps hold r⟩
  refine wpAny_bind (wpAny_holding (wpAny_call_entry PyProof.Rows.slot_list_sort ⟨_, hoL, rfl⟩ PyProof.Rows.entry_list_sort
    (PySem.W.list_sort_vals (s := { s with heap := h'.push (seqObj "list" acc.toList.toArray 0), toks := tk }) hoL
      (PySem.W.SortsAt.data (s := { s with heap := PySem.W.sortingHeap (h'.push (seqObj "list" acc.toList.toArray 0)) h'.objs.size acc.toList, toks := tk }) (PySem.W.each_map (R := fun v d => ∃ as, Reads (PySem.W.sortingHeap (h'.push (seqObj "list" acc.toList.toArray 0)) h'.objs.size acc.toList) v d as) id er') (by rw [hmap]; exact p2) (by rw [hmap]; exact p3)
        (by rw [hmap]; intro b hb; have := depthOf hb; unfold Rm at hu; show X.A.units + 2 + b.depth < cLine; omega)) (by rw [hal]; exact hn) ⟨_, rfl, ?_⟩)
    (PyProof.Rows.args_list_sort _)))
  have he := PySem.W.sortVals_data false e0 er' (by rw [hmap]; exact p2)
  have he' : PySem.W.EachIs (fun u d => ∃ v, RelV v u ∧ Rp X.K F v d) (PySem.W.sortVals (PySem.W.dataKind (PySem.W.sortingHeap (h'.push (seqObj "list" acc.toList.toArray 0)) h'.objs.size acc.toList) (ds.map id)) false acc.toList acc.toList) (dSort ds) := by rw [dSort_merge]; exact he
  obtain ⟨ys, rv2, rp⟩ := of_each he'
  obtain ⟨cc, hc⟩ := PyProof.Rows.sortedHeap_at (vs := acc.toList) (out := (PySem.W.sortVals (PySem.W.dataKind (PySem.W.sortingHeap (h'.push (seqObj "list" acc.toList.toArray 0)) h'.objs.size acc.toList) (ds.map id)) false acc.toList acc.toList).toArray) hoL
  have hlen : ys.length ≤ sizeLine := by
    rw [rv2.length, PySem.W.sortVals_length false rfl, hal]; exact hn
  refine wpAny_pure ⟨_, rfl, .ref h'.objs.size, upd H h'.objs.size (.lst ys), I1.laid (t' := tk) (fun b u e => ?_) (Nat.le_refl _)
    (show ObjOk X.prog X.w _ _ _ (.lst ys) from ⟨hlen, _, cc, rv2, hc⟩), rfl, q ys _ rp (I1.hok.fresh (Nat.le_refl _))⟩
  have hb : b < h'.objs.size := Heap.lt_size e
  rw [PyProof.Rows.sortedHeap_old (Nat.ne_of_lt hb) (by rw [size_push']; exact Nat.lt_succ_of_lt hb)]
  exact Heap.get?_push_of_some _ e
end
theorem rd_uniq {H : Hp} {a : Addr} {u w : HO} (h1 : Rd H a u) (h2 : Rd H a w) (n1 : ∀ o v, u ≠ .frz o v) (n2 : ∀ o v, w ≠ .frz o v) : u = w := by
  rcases h1 with h1 | ⟨o, h1⟩ <;> rcases h2 with h2 | ⟨o', h2⟩ <;> (rw [h1] at h2; cases h2)
  · rfl
  · exact absurd rfl (n1 _ _)
  · exact absurd rfl (n2 _ _)
  · rfl
theorem row_rp {K : PySem.W.Frag} {F H : Hp} {v : V} {ds : List (D × D)} (tf : Tf F H) (h : (∃ a kvs, v = .ref a ∧ Rd H a (.dK kvs) ∧ RpK K F kvs ds) ∨ ∃ a kvs, v = .ref a ∧ kvs ≠ [] ∧ Rd H a (.dT kvs) ∧ RpT K F kvs ds) :
    ∃ a, v = .ref a ∧ ((∃ kvs, Rd H a (.dK kvs)) ∨ ∃ kvs, Rd H a (.dT kvs)) ∧ ∀ ks, KeyRow H a ks → RpA K F ks (keysD ds) := by
  rcases h with ⟨a, kvs, rfl, e, r⟩ | ⟨a, kvs, rfl, n, e, r⟩
  · refine ⟨a, rfl, .inl ⟨_, e⟩, fun ks h => ?_⟩
    rcases h with ⟨kvs', e', rfl⟩ | ⟨kvs', bs, e', _, rfl⟩
    · have := rd_uniq e e' (fun _ _ z => by cases z) fun _ _ z => by cases z
      cases this; exact r.keys
    · have := rd_uniq e e' (fun _ _ z => by cases z) fun _ _ z => by cases z
      cases this
  · refine ⟨a, rfl, .inr ⟨_, e⟩, fun ks h => ?_⟩
    rcases h with ⟨kvs', e', rfl⟩ | ⟨kvs', bs, e', hk, rfl⟩
    · have := rd_uniq e e' (fun _ _ z => by cases z) fun _ _ z => by cases z
      cases this
    · have := rd_uniq e e' (fun _ _ z => by cases z) fun _ _ z => by cases z
      cases this; exact isKeys_rp tf hk r
def opSortedK : D → Option Rs
  | .dict kvs => if sortOk (keysD kvs) then some (.new (.list (dSort (keysD kvs)))) else none
  | d => opSorted d
theorem ok_sortedK {K : PySem.W.Frag} : UnOk K (fun xs H Q => rSortP K xs H Q ∨ rSortK K xs H Q) opSortedK := by
  intro c F H σ env x d res g ox h Q q
  unfold opSortedK at h
  split at h
  · rename_i kvs
    split at h
    · rename_i ok
      cases h
      obtain ⟨a, rfl, hd, hr⟩ := row_rp g.tf (ox.dict g.sub)
      refine .inr ⟨a, F, _, rfl, hd, g.sub, hr, ok, fun ys p rp hp => ?_⟩
      obtain ⟨g', rr⟩ := g.laidNew hp (.lst upd_same rp)
      exact q _ _ _ g' (Same.refl F) rr
    · cases h
  · exact .inl (ok_sorted c F H σ env x d res g ox h Q q)
theorem cr_sortedK {X : Cx} (hu : Rm X) (hc : X.calm = true) : CallR X (.builtin "sorted") (fun xs H Q => rSortP X.K xs H Q ∨ rSortK X.K xs H Q) := (cr_sortP hu).or (cr_sortK hu hc)
end Ev
set_option Elab.async false
set_option linter.all false
set_option maxRecDepth 100000
set_option maxHeartbeats 1000000
/-! Ev28: a dict of one's own lists that grow: d = {..: [] ..}, d[k] = [], d[k].append(v); behind it a dict of one's own, its lists frozen. -/
namespace Ev
open PySem PySem.Spec PyProof.Rows L2

structure Ent where
  k : Key
  l : Addr
  xs : List V
abbrev kvsOf (es : List Ent) : List (Key × V) := es.map fun e => (e.k, .ref e.l)
abbrev Ctx.wt (c : Ctx) (t : Hp) : Ctx := { c with tmp := t }
/-- the dict at p and its lists are held: t over c -/
structure Nest (c : Ctx) (t : Hp) (p : Addr) (es : List Ent) : Prop where
  dict : t p = some (.dK (kvsOf es))
  lst : ∀ e ∈ es, t e.l = some (.lst e.xs)
  nod : (es.map (·.l)).Nodup
  nok : (es.map (·.k)).Nodup
  np : ∀ e ∈ es, e.l ≠ p
  out : ∀ a, a ≠ p → (∀ e ∈ es, a ≠ e.l) → t a = c.tmp a
  fp : c.tmp p = none ∧ c.H0 p = none ∧ ∀ i, c.lk i ≠ some p
  fl : ∀ e ∈ es, c.tmp e.l = none ∧ c.H0 e.l = none ∧ ∀ i, c.lk i ≠ some e.l
inductive RpE (K : PySem.W.Frag) (F : Hp) : List Ent → List (D × D) → Prop
  | nil : RpE K F [] []
  | cons {k : Key} {l : Addr} {xs : List V} {ds : List D} {es : List Ent} {kls : List (D × D)} : RpA K F xs ds → RpE K F es kls → RpE K F (⟨k, l, xs⟩ :: es) ((kD k, .list ds) :: kls)
/-- d[k].append(v) on data -/
def apD : List (D × D) → D → D → Option (List (D × D))
  | [], _, _ => none
  | (k', v) :: r, k, d => if PyData.eqv k' k = true then (match v with
    | .list ds => if ds.length < sizeLine then some ((k', .list (ds ++ [d])) :: r) else none
    | _ => none) else (apD r k d).map ((k', v) :: ·)
section
variable {K : PySem.W.Frag} {c : Ctx} {F F' H : Hp} {σ : L2.St} {env : Env} {t : Hp} {p : Addr} {es : List Ent} {kls : List (D × D)}
theorem RpE.mono (s : Same F F') : ∀ {es : List Ent} {kls : List (D × D)}, RpE K F es kls → RpE K F' es kls
  | _, _, .nil => .nil
  | _, _, .cons r t => .cons (r.mono s) (RpE.mono s t)
theorem RpE.length : ∀ {es : List Ent} {kls : List (D × D)}, RpE K F es kls → es.length = kls.length
  | _, _, .nil => rfl
  | _, _, .cons _ t => by simp [RpE.length t]
theorem RpE.snoc {k : Key} {l : Addr} : ∀ {es : List Ent} {kls : List (D × D)}, RpE K F es kls → RpE K F (es ++ [⟨k, l, []⟩]) (kls ++ [(kD k, .list [])])
  | _, _, .nil => .cons .nil .nil
  | _, _, .cons r t => .cons r (RpE.snoc t)
/-- a place -/
theorem RpE.find {k : Key} {v : V} {d : D} (hv : Rp K F v d) : ∀ {es : List Ent} {kls kls' : List (D × D)}, RpE K F es kls → apD kls (kD k) d = some kls' →
    ∃ a e b, es = a ++ e :: b ∧ e.k = k ∧ (∀ e' ∈ a, e'.k ≠ k) ∧ e.xs.length < sizeLine ∧ RpE K F (a ++ ⟨e.k, e.l, e.xs ++ [v]⟩ :: b) kls'
  | _, _, _, .nil, h => by cases h
  | _, _, kls', .cons (k := k') (l := l) (xs := xs) (ds := ds) (es := es) (kls := kls) r t, h => by
    simp only [apD, eqv_kD] at h
    by_cases hk : k' = k
    · subst hk
      rw [if_pos (by simp)] at h
      split at h
      · rename_i hl
        cases h
        exact ⟨[], ⟨k', l, xs⟩, es, rfl, rfl, fun _ z => (by cases z), by rw [r.length]; exact hl, .cons (r.append (.cons hv .nil)) t⟩
      · cases h
    · rw [if_neg (by simpa using hk)] at h
      obtain ⟨kls2, h1, rfl⟩ := Option.map_eq_some_iff.mp h
      obtain ⟨a, e, b, q1, q2, q3, q4, q5⟩ := RpE.find hv t h1
      subst q1
      refine ⟨⟨k', l, xs⟩ :: a, e, b, rfl, q2, fun e' he' => ?_, q4, .cons r q5⟩
      rcases List.mem_cons.mp he' with z | z
      · subst z; exact hk
      · exact q3 e' z
theorem valV_kvs {k : Key} : ∀ {a : List Ent} {e : Ent} {b : List Ent}, e.k = k → (∀ e' ∈ a, e'.k ≠ k) → valV (kvsOf (a ++ e :: b)) k = some (.ref e.l)
  | [], e, b, h, _ => valV_pos h
  | x :: a, e, b, h, n => (valV_neg (n x List.mem_cons_self)).trans (valV_kvs (a := a) h fun e' he => n e' (List.mem_cons_of_mem _ he))

theorem upd_self {t : Hp} {a : Addr} {o : HO} (h : t a = some o) : upd t a o = t := by
  funext b
  by_cases hb : b = a
  · subst hb; rw [upd_same, h]
  · rw [upd_ne hb]
theorem G.rewt {a : Addr} {o u : HO} (g : G K (c.wt t) F H σ env) (ht : t a = some o) (h0 : c.H0 a = none) (hlk : ∀ i, c.lk i ≠ some a) (nt : ∀ xs, u ≠ .tup xs := by intro _ z; cases z) : G K (c.wt (upd t a u)) F (upd H a u) σ env := by
  have g' : G K ((c.wt t).hold a o) F H σ env := by
    show G K (c.wt (upd t a o)) F H σ env
    rw [upd_self ht]; exact g
  exact g'.rehold h0 hlk nt
theorem Nest.cle {t' : Hp} {es' : List Ent} (n : Nest c t p es) (n' : Nest c t' p es') : CtxLe (c.wt t) (c.wt t') := ⟨fun i a o hk ht => by
  have h1 : a ≠ p := fun z => n.fp.2.2 i (by rw [← z]; exact hk)
  have h1' : ∀ e ∈ es, a ≠ e.l := fun e he z => (n.fl e he).2.2 i (by rw [← z]; exact hk)
  have h2' : ∀ e ∈ es', a ≠ e.l := fun e he z => (n'.fl e he).2.2 i (by rw [← z]; exact hk)
  show t' a = some o
  rw [n'.out a h1 h2', ← n.out a h1 h1']; exact ht, fun _ _ h => h⟩
theorem Nest.start (g : G K c F H σ env) (hp : H p = none) : G K (c.wt (upd c.tmp p (.dK []))) F (upd H p (.dK [])) σ env ∧ Nest c (upd c.tmp p (.dK [])) p [] := by
  obtain ⟨h1, h2, h3⟩ := g.new hp
  exact ⟨g.hold hp, upd_same, fun _ z => (by cases z), .nil, .nil, fun _ z => (by cases z), fun a ha _ => upd_ne ha, ⟨h2.2, h2.1, fun i z => (g.lkc i p z).1 h2.2⟩, fun _ z => (by cases z)⟩
theorem Nest.add' {k : Key} {l : Addr} (g : G K (c.wt (upd t l (.lst []))) F H σ env) (n : Nest c t p es) (hlt : t l = none) (h0 : c.H0 l = none) (hlk : ∀ i, c.lk i ≠ some l) (hk : ∀ e ∈ es, e.k ≠ k) :
    ∃ t', G K (c.wt t') F (upd H p (.dK (kvsOf (es ++ [⟨k, l, []⟩])))) σ env ∧ Nest c t' p (es ++ [⟨k, l, []⟩]) := by
  have hlp : l ≠ p := fun z => by rw [z, n.dict] at hlt; cases hlt
  have hle : ∀ e ∈ es, l ≠ e.l := fun e he z => by rw [z, n.lst e he] at hlt; cases hlt
  have g2 := g.rewt (a := p) (u := .dK (kvsOf (es ++ [⟨k, l, []⟩]))) ((upd_ne (Ne.symm hlp)).trans n.dict) n.fp.2.1 n.fp.2.2
  have hc : c.tmp l = none := by rw [← n.out l hlp hle]; exact hlt
  have mem : ∀ {e : Ent}, e ∈ es ++ [⟨k, l, []⟩] → e ∈ es ∨ e = ⟨k, l, []⟩ := fun {e} he => by
    rcases List.mem_append.mp he with z | z
    · exact .inl z
    · exact .inr (by simpa using z)
  refine ⟨_, g2, upd_same, fun e he => ?_, ?_, ?_, fun e he => ?_, fun a ha hes => ?_, n.fp, fun e he => ?_⟩
  · rcases mem he with z | z
    · rw [upd_ne (n.np e z), upd_ne (Ne.symm (hle e z))]; exact n.lst e z
    · subst z; rw [upd_ne hlp, upd_same]
  · rw [List.map_append, List.nodup_append]
    refine ⟨n.nod, by simp, fun a ha b hb => ?_⟩
    obtain ⟨e, he, rfl⟩ := List.mem_map.mp ha
    simp at hb
    subst hb
    exact Ne.symm (hle e he)
  · rw [List.map_append, List.nodup_append]
    refine ⟨n.nok, by simp, fun a ha b hb => ?_⟩
    obtain ⟨e, he, rfl⟩ := List.mem_map.mp ha
    simp at hb
    subst hb
    exact hk e he
  · rcases mem he with z | z
    · exact n.np e z
    · subst z; exact hlp
  · rw [upd_ne ha, upd_ne (hes ⟨k, l, []⟩ (List.mem_append_right _ List.mem_cons_self))]
    exact n.out a ha fun e he => hes e (List.mem_append_left _ he)
  · rcases mem he with z | z
    · exact n.fl e z
    · subst z; exact ⟨hc, h0, hlk⟩
theorem Nest.app {a b : List Ent} {e : Ent} {v : V} (g : G K (c.wt t) F H σ env) (n : Nest c t p (a ++ e :: b)) :
    ∃ t', G K (c.wt t') F (upd H e.l (.lst (e.xs ++ [v]))) σ env ∧ Nest c t' p (a ++ ⟨e.k, e.l, e.xs ++ [v]⟩ :: b) := by
  have he : e ∈ a ++ e :: b := List.mem_append_right _ List.mem_cons_self
  have g2 := g.rewt (a := e.l) (u := .lst (e.xs ++ [v])) (n.lst e he) (n.fl e he).2.1 (n.fl e he).2.2
  have nod := n.nod
  have mem : ∀ {e' : Ent}, e' ∈ a ++ ⟨e.k, e.l, e.xs ++ [v]⟩ :: b → e' = ⟨e.k, e.l, e.xs ++ [v]⟩ ∨ (e' ∈ a ++ e :: b ∧ e'.l ≠ e.l) := fun {e'} h => by
    rw [List.map_append, List.map_cons, List.nodup_append] at nod
    rcases List.mem_append.mp h with z | z
    · exact .inr ⟨List.mem_append_left _ z, nod.2.2 _ (List.mem_map_of_mem z) _ List.mem_cons_self⟩
    · rcases List.mem_cons.mp z with z | z
      · exact .inl z
      · refine .inr ⟨List.mem_append_right _ (List.mem_cons_of_mem _ z), fun q => ?_⟩
        have := (List.nodup_cons.mp nod.2.1).1
        exact this (by rw [← q]; exact List.mem_map_of_mem z)
  refine ⟨_, g2, ?_, fun e' h => ?_, by simpa using n.nod, by simpa using n.nok, fun e' h => ?_, fun x hx hes => ?_, n.fp, fun e' h => ?_⟩
  · rw [upd_ne (Ne.symm (n.np e he)), n.dict]
    simp [kvsOf]
  · rcases mem h with z | ⟨z, z'⟩
    · subst z; exact upd_same
    · rw [upd_ne z']; exact n.lst e' z
  · rcases mem h with z | ⟨z, _⟩
    · subst z; exact n.np e he
    · exact n.np e' z
  · have hx' : x ≠ e.l := hes ⟨e.k, e.l, e.xs ++ [v]⟩ (List.mem_append_right _ List.mem_cons_self)
    rw [upd_ne hx']
    refine n.out x hx fun e' h => ?_
    rcases List.mem_append.mp h with z | z
    · exact hes e' (List.mem_append_left _ z)
    · rcases List.mem_cons.mp z with z | z
      · subst z; exact hx'
      · exact hes e' (List.mem_append_right _ (List.mem_cons_of_mem _ z))
  · rcases mem h with z | ⟨z, _⟩
    · subst z; exact n.fl e he
    · exact n.fl e' z
/-- less is held -/
theorem G.fewer (g : G K (c.wt t) F H σ env) (h1 : ∀ a o, c.tmp a = some o → t a = some o) (h2 : ∀ i a, c.lk i = some a → t a = c.tmp a) : G K c F H σ env := by
  refine ⟨g.sub, g.len, fun i sl ov es ev => (g.slot i sl ov es ev).ctx rfl rfl, g.dist, g.old, g.fr0, g.frn, g.dom, g.ioh, fun a u e => g.tmp a u (h1 a u e), g.pin, fun i d es => ?_, fun i b e => ?_, g.fz, g.tf⟩
  · obtain ⟨a, o', q1, q2, q3, q4⟩ := g.lk i d es
    have q3' : t a = some o' := q3
    rw [h2 i a q1] at q3'
    exact ⟨a, o', q1, q2, q3', q4⟩
  · obtain ⟨q1, q2⟩ := g.lkc i b e
    have q1' : t b ≠ none := q1
    rw [h2 i b e] at q1'
    exact ⟨q1', q2⟩
/-- many new objects are frozen -/
theorem G.freezeAll : ∀ {es : List Ent} {F : Hp}, G K c F H σ env → (es.map (·.l)).Nodup → (∀ e ∈ es, F e.l = none ∧ c.H0 e.l = none ∧ c.tmp e.l = none ∧ H e.l = some (.lst e.xs) ∧ ∀ (i : Nat) (s : Slot), env[i]? = some s → s.mine = true → σ[i]? ≠ some (some (.ref e.l))) →
    ∃ F', G K c F' H σ env ∧ Same F F' ∧ (∀ e ∈ es, F' e.l = some (.lst e.xs)) ∧ ∀ a, (∀ e ∈ es, a ≠ e.l) → F' a = F a
  | [], F, g, _, _ => ⟨F, g, Same.refl F, fun _ z => (by cases z), fun _ _ => rfl⟩
  | e :: es, F, g, nd, h => by
    rw [List.map_cons, List.nodup_cons] at nd
    obtain ⟨h1, h2, h3, h4, h5⟩ := h e List.mem_cons_self
    have g1 := g.freezeNew h1 h2 h3 h4 h5
    have ne_ : ∀ e' ∈ es, e'.l ≠ e.l := fun e' he z => nd.1 (by rw [← z]; exact List.mem_map_of_mem he)
    obtain ⟨F', g2, s2, q1, q2⟩ := G.freezeAll (es := es) g1 nd.2 fun e' he => by
      obtain ⟨z1, z2, z3, z4, z5⟩ := h e' (List.mem_cons_of_mem _ he)
      exact ⟨by rw [upd_ne (ne_ e' he)]; exact z1, z2, z3, z4, z5⟩
    refine ⟨F', g2, (Same.upd h1).trans s2, fun e' he => ?_, fun a ha => ?_⟩
    · rcases List.mem_cons.mp he with z | z
      · subst z; exact s2 _ _ upd_same
      · exact q1 e' z
    · rw [q2 a fun e' he => ha e' (List.mem_cons_of_mem _ he), upd_ne (ha e List.mem_cons_self)]
theorem RpE.rpK {H : Hp} : ∀ {es : List Ent} {kls : List (D × D)}, RpE K F es kls → (∀ e ∈ es, F e.l = some (.lst e.xs)) → RpK K F (kvsOf es) kls
  | _, _, .nil, _ => .nil
  | _, _, .cons r t, h => .cons (.lst (.inl (.inl (h _ List.mem_cons_self))) r) (RpE.rpK (H := H) t fun e he => h e (List.mem_cons_of_mem _ he))
theorem Nest.fin {i : Nat} (g : G K (c.wt t) F H σ env) (n : Nest c t p es) (r : RpE K F es kls) (hv : σ[i]? = some (some (.ref p))) (he : env[i]? = some .emp) :
    ∃ F', G K c F' H σ (env.set i (.own (.dict kls))) ∧ Same F F' := by
  have g0 : G K c F H σ env := g.fewer (fun a o e => by
    have h1 : a ≠ p := fun z => by rw [z, n.fp.1] at e; cases e
    have h2 : ∀ x ∈ es, a ≠ x.l := fun x hx z => by rw [z, (n.fl x hx).1] at e; cases e
    rw [n.out a h1 h2]; exact e) fun i a hk => n.out a (fun z => n.fp.2.2 i (by rw [← z]; exact hk)) fun e he z => (n.fl e he).2.2 i (by rw [← z]; exact hk)
  obtain ⟨p1, p2, p3⟩ := g.tmp p _ n.dict
  obtain ⟨F', g1, s1, q1, q2⟩ := G.freezeAll (es := es) g0 n.nod fun e he => by
    obtain ⟨z1, z2, z3⟩ := g.tmp e.l _ (n.lst e he)
    exact ⟨z2, (n.fl e he).2.1, (n.fl e he).1, z1, z3⟩
  have hFp : F' p = none := (q2 p fun e he => Ne.symm (n.np e he)).trans p2
  have g2 := g1.storeOwn (i := i) (v := .ref p) (d := .dict kls) ⟨p, rfl, hFp, ⟨n.fp.2.1, n.fp.1⟩, .dK p1 ((r.mono s1).rpK (H := H) q1), p3⟩ (by unfold ioAt; rw [he])
  have hi : i < σ.length := (List.getElem?_eq_some_iff.mp hv).1
  have : σ.set i (some (.ref p)) = σ := by
    refine List.ext_getElem? fun j => ?_
    by_cases hj : i = j
    · subst hj; rw [List.getElem?_set_self hi, hv]
    · rw [List.getElem?_set_ne hj]
  rw [this] at g2
  exact ⟨F', g2, s1⟩
end

/-! ### statements meanwhile -/
abbrev NS := List (D × D) → Env → Option (List (D × D) × Env)
section
variable (K : PySem.W.Frag) (i : Nat)
def tNS (f : NS) : TS := fun Dn σ H => ∃ c F env kls t p es kls' env', G K (c.wt t) F H σ env ∧ Nest c t p es ∧ RpE K F es kls ∧ σ[i]? = some (some (.ref p)) ∧ env[i]? = some .emp ∧ f kls env = some (kls', env') ∧
  ∀ σ' F' H' t' es', G K (c.wt t') F' H' σ' env' → Same F F' → Nest c t' p es' → RpE K F' es' kls' → σ'[i]? = some (some (.ref p)) → env'[i]? = some .emp → Dn.nx σ' H'
/-- the first statement -/
def tN0 (f : Env → Option (List (D × D) × Env)) : TS := fun Dn σ H => ∃ c F env kls' env', G K c F H σ env ∧ f env = some (kls', env') ∧
  ∀ σ' F' H' t' p es', G K (c.wt t') F' H' σ' env' → Same F F' → Nest c t' p es' → RpE K F' es' kls' → σ'[i]? = some (some (.ref p)) → env'[i]? = some .emp → Dn.nx σ' H'
end
def isEmp : Option Slot → Bool
  | some .emp => true
  | _ => false
theorem isEmp_at {o : Option Slot} (h : isEmp o = true) : o = some .emp := by
  unfold isEmp at h
  split at h
  · rfl
  · cases h
def nSeq (f g : NS) : NS := fun k e => do
  let (k1, e1) ← f k e
  g k1 e1
def nNil : NS := fun k e => some (k, e)
def nLoop (tg : TgE) (body : NS) : List D → NS
  | [], k, e => some (k, e)
  | d :: ds, k, e => do
    let e1 ← tg d e
    let (k2, e2) ← body k e1
    nLoop tg body ds k2 e2
def nFor (i : Nat) (it : I) (tg : TgE) (body : NS) : NS := fun k e => do
  let (ds, l, e1) ← it e
  match l with
  | none => if isEmp e1[i]? = true then nLoop tg body ds k e1 else none
  | some _ => none
/-- d[fk].append(fv) -/
def nApp (i : Nat) (fk : E) (fa : AD) : NS := fun kls e => do
  let (rk, e1) ← fk e
  let (k, e2) ← take rk e1
  let (vs, e4) ← fa e2
  match vs with
  | [v] => if (asKey k).isSome = true ∧ isEmp e4[i]? = true then (apD kls k v).map fun kls' => (kls', e4) else none
  | _ => none
/-- d[fk] = [] -/
def nPut (i : Nat) (fk : E) : NS := fun kls e => do
  let (rk, e1) ← fk e
  let (k, e2) ← take rk e1
  if (asKey k).isSome = true ∧ kls.length < sizeLine ∧ (kls.any fun p => PyData.eqv p.1 k) = false ∧ isEmp e2[i]? = true then some (kls ++ [(k, .list [])], e2) else none
/-- the whole: d is of one's own behind it -/
def sNest (i : Nat) (f0 : Env → Option (List (D × D) × Env)) (f1 : NS) : S := fun e => do
  let (k0, e0) ← f0 e
  let (k1, e1) ← f1 k0 e0
  pure (.nx (e1.set i (.own (.dict k1))))
section
variable {X : Cx} {i : Nat} {s1 s2 : Stmt} {sts rest : List Stmt} {f0 : Env → Option (List (D × D) × Env)} {f f1 : NS} {g : S} {pos : Pos}
abbrev JN (X : Cx) (i : Nat) (s : Stmt) (f : NS) : Prop := PS X s (tNS X.K i f)
abbrev JNs (X : Cx) (i : Nat) (s : List Stmt) (f : NS) : Prop := PSs X s (tNS X.K i f)
theorem jns_nil : JNs X i [] nNil := pss_nil.imp fun Dn σ H w => by
  obtain ⟨c, F, env, kls, t, p, es, kls', env', g, n, r, hv, he, hf, q⟩ := w
  cases hf
  exact q σ F H t es g (Same.refl F) n r hv he
theorem jns_cons {f g : NS} (h1 : JN X i s1 f) (h2 : JNs X i sts g) : JNs X i (s1 :: sts) (nSeq f g) := (pss_cons h1 h2).imp fun Dn σ H w => by
  obtain ⟨c, F, env, kls, t, p, es, kls', env', g0, n, r, hv, he, hf, q⟩ := w
  simp only [nSeq, bind, Option.bind_eq_some_iff] at hf
  obtain ⟨⟨k1, e1⟩, h1, h2⟩ := hf
  exact ⟨c, F, env, kls, t, p, es, k1, e1, g0, n, r, hv, he, h1, fun σ' F' H' t' es' g' s' n' r' hv' he' => ⟨c, F', e1, k1, t', p, es', kls', env', g', n', r', hv', he', h2, fun σ2 F2 H2 t2 es2 g2 s2 => q σ2 F2 H2 t2 es2 g2 (s'.trans s2)⟩⟩
theorem jn_for {tg iter : Expr} {it : I} {ga : TgE} {ws : List Nat} (hc : X.calm = true) (hp : PassesOwn (model X.prog X.w) X.A X.env X.xe) (hi : JI X tg iter it) (hg : JG X tg ga ws) (hb : JNs X i sts f) (hiw : i ∉ ws := by decide) (hga : ∀ d e e', ga d e = some e' → e'[i]? = e[i]? := by intro d e e' h; rfl)
    (hs : ∀ x, foldedSetIterable iter X.env x = pure x := by intro _; rfl) : JN X i (.For tg iter sts [] pos) (nFor i it ga f) := (ps_for hp hc hi hg hb hs).imp fun Dn σ H w => by
  obtain ⟨c, F, env, kls, t, p, es, kls', env', g, n, r, hv, he, hf, q⟩ := w
  simp only [nFor, bind, Option.bind_eq_some_iff] at hf
  obtain ⟨⟨ds, l, e1⟩, h1, h2⟩ := hf
  dsimp only at h2
  cases l with
  | some _ => cases h2
  | none =>
  dsimp only at h2
  split at h2
  · rename_i hem
    have hem' : e1[i]? = some .emp := isEmp_at hem
    refine (ItOk.std (K := X.K) (it := it) (pre := fun _ _ _ _ _ => True)).run g trivial h1 fun J c' F1 H1 hk g1 s1 W _ => ?_
    cases hk
    obtain ⟨Gp, Y, w, hG, hY⟩ := W
    refine for_it w (fun m σ' H' => ∃ F' e k t' es', G X.K (c.wt t') F' H' σ' e ∧ Nest c t' p es' ∧ RpE X.K F' es' k ∧ σ'[i]? = some (some (.ref p)) ∧ e[i]? = some .emp ∧ Same F1 F' ∧ nLoop ga f (ds.drop m) k e = some (kls', env'))
      ⟨F1, e1, kls, t, es, g1, n, r.mono s1, hv, hem', Same.refl F1, h2⟩ (fun m σ' H' _ ⟨F', e, k, t', es', g', n', _, _, _, s', _⟩ => hG _ F' H' σ' e (n.cle n') g' s') (fun m x σ' H2 H3 hm P y => ?_) fun σ' H' ⟨F', e, k, t', es', g', n', r', hv', he', s', hl⟩ => ?_
    · obtain ⟨F2, e, k, t', es', g2, n2, r2, hv2, he2, s2, hl⟩ := P
      obtain ⟨d, F3, hd, g3, s3, rd, _⟩ := hY m H2 x H3 _ F2 σ' e hm (n.cle n2) g2 s2 y
      have hdrop : ds.drop m = d :: ds.drop (m + 1) := by
        obtain ⟨hlt, e'⟩ := List.getElem?_eq_some_iff.mp hd
        rw [← e']; exact List.drop_eq_getElem_cons hlt
      rw [hdrop] at hl
      simp only [nLoop, bind, Option.bind_eq_some_iff] at hl
      obtain ⟨e2, h4, ⟨k2, e3⟩, h5, h6⟩ := hl
      refine ⟨_, F3, e, d, e2, g3, rd, h4, fun σ4 F4 H4 o4 g4 s4 => ?_⟩
      have he4 : e2[i]? = some .emp := (hga d e e2 h4).trans he2
      have hv4 : σ4[i]? = some (some (.ref p)) := (o4.2 i hiw).trans hv2
      refine ⟨c, F4, e2, k, t', p, es', k2, e3, g4, n2, (r2.mono s3).mono s4, hv4, he4, h5, fun σ5 F5 H5 t5 es5 g5 s5 n5 r5 hv5 he5 => ?_⟩
      exact ⟨F5, e3, k2, t5, es5, g5, n5, r5, hv5, he5, ((s2.trans s3).trans s4).trans s5, h6⟩
    · rw [List.drop_length] at hl
      cases hl
      exact q σ' F' H' t' es' g' (s1.trans s') n' r' hv' he'
  · cases h2
theorem jss_nest {f1 : NS} (h0 : PS X s1 (tN0 X.K i f0)) (h1 : PS X s2 (tNS X.K i f1)) (h2 : JSs X rest g) : JSs X (s1 :: s2 :: rest) (sSeq (sNest i f0 f1) g) := (pss_cons h0 (pss_cons h1 h2)).imp fun Dn σ H w => by
  obtain ⟨c, F, env, o, g0, hf, q⟩ := w
  simp only [sSeq, sNest, bind, Option.bind_eq_some_iff, pure, Option.some.injEq] at hf
  obtain ⟨o1, ⟨⟨k0, e0⟩, h1, ⟨k1, e1⟩, h2, h3⟩, h4⟩ := hf
  subst h3
  refine ⟨c, F, env, k0, e0, g0, h1, fun σ1 F1 H1 t1 p es1 g1 s1 n1 r1 hv1 he1 => ?_⟩
  refine ⟨c, F1, e0, k0, t1, p, es1, k1, e1, g1, n1, r1, hv1, he1, h2, fun σ2 F2 H2 t2 es2 g2 s2 n2 r2 hv2 he2 => ?_⟩
  obtain ⟨F3, g3, s3⟩ := n2.fin g2 r2 hv2 he2
  exact ⟨c, F3, _, o, g3, h4, q.mono ((s1.trans s2).trans s3)⟩
theorem jss_nest3 {s3 : Stmt} {f1 f2 : NS} (h0 : PS X s1 (tN0 X.K i f0)) (h1 : PS X s2 (tNS X.K i f1)) (h1' : PS X s3 (tNS X.K i f2)) (h2 : JSs X rest g) : JSs X (s1 :: s2 :: s3 :: rest) (sSeq (sNest i f0 (nSeq f1 f2)) g) := (pss_cons h0 (pss_cons h1 (pss_cons h1' h2))).imp fun Dn σ H w => by
  obtain ⟨c, F, env, o, g0, hf, q⟩ := w
  simp only [sSeq, sNest, nSeq, bind, Option.bind_eq_some_iff, pure, Option.some.injEq] at hf
  obtain ⟨o1, ⟨⟨k0, e0⟩, h1, ⟨k1, e1⟩, ⟨⟨k2, e2⟩, h2, h2'⟩, h3⟩, h4⟩ := hf
  subst h3
  refine ⟨c, F, env, k0, e0, g0, h1, fun σ1 F1 H1 t1 p es1 g1 s1 n1 r1 hv1 he1 => ?_⟩
  refine ⟨c, F1, e0, k0, t1, p, es1, k2, e2, g1, n1, r1, hv1, he1, h2, fun σ2 F2 H2 t2 es2 g2 s2 n2 r2 hv2 he2 => ?_⟩
  refine ⟨c, F2, e2, k2, t2, p, es2, k1, e1, g2, n2, r2, hv2, he2, h2', fun σ3 F3 H3 t3 es3 g3 s3 n3 r3 hv3 he3 => ?_⟩
  obtain ⟨F4, g4, s4⟩ := n3.fin g3 r3 hv3 he3
  exact ⟨c, F4, _, o, g4, h4, q.mono (((s1.trans s2).trans s3).trans s4)⟩
end

section
variable {X : Cx} {i : Nat} {x : Str} {k e : Expr} {fk : E} {fa : AD} {pos p1 p2 apos cpos : Pos}
theorem RpE.keys {K : PySem.W.Frag} {F : Hp} {k0 : Key} : ∀ {es : List Ent} {kls : List (D × D)}, RpE K F es kls → (kls.any fun p => PyData.eqv p.1 (kD k0)) = false → ∀ e ∈ es, e.k ≠ k0
  | _, _, .nil, _, e, he => by cases he
  | _, _, .cons r t, h, e, he => by
    simp only [List.any_cons, Bool.or_eq_false_iff, eqv_kD, decide_eq_false_iff_not] at h
    rcases List.mem_cons.mp he with z | z
    · subst z; exact h.1
    · exact RpE.keys t h.2 e z
theorem take_key {K : PySem.W.Frag} {F : Hp} {y : V} {d : D} {k0 : Key} (hk : asKey d = some k0) (r : Rp K F y d) : y = kV k0 := by
  have := asKey_eq hk
  subst this
  cases k0 with
  | inl i => cases r; rfl
  | inr x => cases r; rfl
theorem jn_append (hu : Rm X) (hk : JE X k fk) (ha : JAD X [e] fa) (hi : X.N[i]? = some x := by rfl) (hv : Vis X.env.scope x := by first | exact Or.inl rfl | exact Or.inr (Or.inl rfl) | exact Or.inr (Or.inr rfl))
    (hd : (x == ("__debug__" : Str)) = false := by decide) (hcd : (x == ("__classdict__" : Str)) = false := by decide) (hno : NoSl k := by intro _ _; rfl)
    (hbase : attributeBase (.Subscript (.Name x p1) k p2) "append" X.env (eval (.Subscript (.Name x p1) k p2) X.env) = eval (.Subscript (.Name x p1) k p2) X.env := by rfl)
    (hfew : ((backTo cpos (starEach [e] X.env)).all (fun x => !x.1) && (backToKw cpos (keywordEach [] X.env)).all (fun x => x.1.isSome)
      && decide (([e] : List Expr).length + ([] : List Keyword).length + (if ([] : List Keyword).isEmpty then 0 else 1) < 30)) = true := by rfl)
    (hline : (apos.endLine == cpos.line) = true := by rfl) (hs : starEach [e] X.env = (false, eval e X.env) :: starEach [] X.env := by rfl) (hplain : (backTo cpos (starEach [] X.env)).any (·.1) = false := by rfl)
    (hsw : swapsWith (.Call (.Attribute (.Subscript (.Name x p1) k p2) "append" apos) [e] [] cpos) none pos.line X.env = pure false := by rfl) :
    JN X i (.Expr (.Call (.Attribute (.Subscript (.Name x p1) k p2) "append" apos) [e] [] cpos) pos) (nApp i fk fa) :=
  (ps_expr (pe_bm F.plainAttrs_list F.slot_list_append F.type_list_append mt_append (pe_dget (by unfold Rm at hu; omega) (pe_var hi hv hd hcd) hk hno) ha hbase hfew hline hs hplain) hsw).imp fun Dn σ H w => by
    obtain ⟨c, F, env, kls, t, p, es, kls', env', g, n, r, hv, he, hf, q⟩ := w
    simp only [nApp, bind, Option.bind_eq_some_iff] at hf
    obtain ⟨⟨rk, e1⟩, h1, ⟨k', e2⟩, h2, ⟨ws, e4⟩, h3, h4⟩ := hf
    dsimp only at h4
    split at h4
    · rename_i d
      split at h4
      · rename_i hc
        obtain ⟨kls2, h5, h6⟩ := Option.map_eq_some_iff.mp h4
        cases h6
        refine ⟨_, hv, c.wt t, F, env, rk, e1, g, h1, fun y F1 H1 g1 s1 r1 => ?_⟩
        obtain ⟨F2, g2, s2, r2⟩ := take_ok g1 r1 h2
        obtain ⟨k0, hk0⟩ := Option.isSome_iff_exists.mp hc.1
        have ek := asKey_eq hk0
        have ey := take_key hk0 r2
        subst ek
        obtain ⟨p1, p2, p3⟩ := g2.tmp p _ n.dict
        have hsome : ∀ {d : D} {kls : List (D × D)} {out : List (D × D)}, apD kls (kD k0) d = some out → ∃ out', apD kls (kD k0) .none = some out' := by
          intro d kls
          induction kls with
          | nil => intro out h; cases h
          | cons a l ih =>
            intro out h
            obtain ⟨ka, va⟩ := a
            by_cases hk : PyData.eqv ka (kD k0) = true
            · simp only [apD, hk, if_true] at h ⊢
              cases va <;> simp only [reduceCtorEq] at h ⊢
              split at h
              · rename_i hl; exact ⟨_, if_pos hl⟩
              · cases h
            · simp only [apD, hk] at h ⊢
              obtain ⟨o1, h1, _⟩ := Option.map_eq_some_iff.mp h
              obtain ⟨o2, h2⟩ := ih h1
              exact ⟨_, by rw [h2]; rfl⟩
        obtain ⟨o', ho'⟩ := hsome h5
        obtain ⟨a, en, b, q1, q2, q3, q4, _⟩ := (r.mono (s1.trans s2)).find (k := k0) (v := .non) (d := .none) .non ho'
        subst q1
        have hl : H1 en.l = some (.lst en.xs) := (g2.tmp _ _ (n.lst en (List.mem_append_right _ List.mem_cons_self))).1
        refine ⟨p, .ref en.l, rfl, ?_, ?_⟩
        · rw [ey, ← valV_kvs (k := k0) q2 q3]; exact DGet.k p1
        refine ⟨.inl ⟨rfl, _, .of hl⟩, c.wt t, F2, e2, [d], _, g2, h3, fun vs F3 H3 g3 s3 r3 => ?_⟩
        obtain ⟨a', en', b', z1, z2, z3, z4, z5⟩ : ∃ a' en' b', a ++ en :: b = a' ++ en' :: b' ∧ en'.k = k0 ∧ (∀ e' ∈ a', e'.k ≠ k0) ∧ en'.xs.length < sizeLine ∧ RpE X.K F3 (a' ++ ⟨en'.k, en'.l, en'.xs ++ [vs.headD .non]⟩ :: b') kls' := by
          refine ((r.mono ((s1.trans s2).trans s3)).find (k := k0) (d := d) ?_ h5)
          cases r3 with | cons rv _ => exact rv
        cases r3 with
        | cons rv rn =>
        cases rn
        rename_i v
        have hen : en' = en := by
          have k1 : en' ∈ a ++ en :: b := by rw [z1]; exact List.mem_append_right _ List.mem_cons_self
          have := n.nok
          rw [List.map_append, List.map_cons, List.nodup_append] at this
          rcases List.mem_append.mp k1 with w | w
          · exact absurd z2 (q3 _ w)
          · rcases List.mem_cons.mp w with w | w
            · exact w
            · have w1 := (List.nodup_cons.mp this.2.1).1
              exact absurd (by rw [q2, ← z2]; exact List.mem_map_of_mem w) w1
        rw [z1] at n
        obtain ⟨t', g4, n4⟩ := n.app (v := v) g3
        subst hen
        refine ⟨en'.l, en'.xs, v, rfl, rfl, (g3.tmp _ _ (n.lst en' (List.mem_append_right _ List.mem_cons_self))).1, z4, ?_⟩
        exact q σ F3 _ t' _ g4 ((s1.trans s2).trans s3) n4 z5 hv (isEmp_at hc.2)
      · cases h4
    · cases h4
theorem jn_put (hu : Rm X) (hk : JE X k fk) (hi : X.N[i]? = some x := by rfl) (hv : Vis X.env.scope x := by first | exact Or.inl rfl | exact Or.inr (Or.inl rfl) | exact Or.inr (Or.inr rfl))
    (hd : (x == ("__debug__" : Str)) = false := by decide) (hcd : (x == ("__classdict__" : Str)) = false := by decide)
    (hs : swapsWith (.List [] p2) (some (.Subscript (.Name x p1) k cpos)) pos.line X.env = pure false := by rfl) :
    JN X i (.Assign [.Subscript (.Name x p1) k cpos] (.List [] p2) pos) (nPut i fk) :=
  (ps_dput (by unfold Rm at hu; omega) (pe_var hi hv hd hcd) hk (pe_lst pa_nil) hs).imp fun Dn σ H w => by
    obtain ⟨c, F, env, kls, t, p, es, kls', env', g, n, r, hv, he, hf, q⟩ := w
    simp only [nPut, bind, Option.bind_eq_some_iff] at hf
    obtain ⟨⟨rk, e1⟩, h1, ⟨k', e2⟩, h2, h3⟩ := hf
    dsimp only at h3
    split at h3
    · rename_i hc
      cases h3
      refine ⟨Nat.zero_le _, fun l hl => ⟨_, hv, ?_⟩⟩
      obtain ⟨m1, m2, m3⟩ := g.new hl
      have hlt : t l = none := m2.2
      have g0 : G X.K (c.wt (upd t l (.lst []))) F (upd H l (.lst [])) σ env := g.hold hl
      refine ⟨_, F, env, rk, e1, g0, h1, fun y F1 H1 g1 s1 r1 => ?_⟩
      obtain ⟨F2, g2, s2, r2⟩ := take_ok g1 r1 h2
      obtain ⟨k0, hk0⟩ := Option.isSome_iff_exists.mp hc.1
      have ek := asKey_eq hk0
      have ey := take_key hk0 r2
      subst ek
      have hks := r.keys hc.2.2.1
      obtain ⟨t', g3, n3⟩ := n.add' g2 hlt m2.1 (fun i z => (g.lkc i l z).1 hlt) hks
      have hp1 : H1 p = some (.dK (kvsOf es)) := (g2.tmp p _ (by
        show upd t l (.lst []) p = _
        rw [upd_ne fun z => by rw [← z, n.dict] at hlt; cases hlt]; exact n.dict)).1
      have hnone : valV (kvsOf es) k0 = none := by
        cases hq : valV (kvsOf es) k0 with
        | none => rfl
        | some w =>
          have := valV_in hq
          obtain ⟨kv, hkv, hk1⟩ := List.mem_map.mp this
          obtain ⟨e', he', rfl⟩ := List.mem_map.mp hkv
          exact absurd hk1 (hks e' he')
      refine ⟨p, _, rfl, ?_, q σ F2 _ t' _ g3 (s1.trans s2) n3 ((r.mono (s1.trans s2)).snoc) hv (isEmp_at hc.2.2.2)⟩
      rw [ey]
      have := DPut.k (k := k0) (v := .ref l) hp1 (by rw [List.length_map, r.length]; exact hc.2.1)
      rw [putK_new _ hnone] at this
      simpa [kvsOf] using this
    · cases h3
/-- d = {} -/
def n0New (i : Nat) : Env → Option (List (D × D) × Env) := fun e => if i < e.length ∧ ioAt e i = false then some ([], e.set i .emp) else none
theorem G.storeEmp {K : PySem.W.Frag} {c : Ctx} {F H : Hp} {σ : L2.St} {env : Env} {v : V} (g : G K c F H σ env) (hio : ioAt env i = false) : G K c F H (σ.set i (some v)) (env.set i .emp) :=
  g.storeSl (sl := .emp) trivial (fun m => by cases m) (fun _ z => by cases z) hio
theorem jn0_new (hN : X.N.Nodup) (hi : X.N[i]? = some x := by rfl) (hx : Loc X.env.scope x := by first | exact Or.inl rfl | exact Or.inr rfl) (hs : swapsWith (.Dict [] [] p1) (some (.Name x p2)) pos.line X.env = pure false := by rfl)
    (hf : X.fn x = true ∨ X.env.scope.names.lookup x = some .local := by first | exact .inl rfl | exact .inr rfl) : PS X (.Assign [.Name x p2] (.Dict [] [] p1) pos) (tN0 X.K i (n0New i)) :=
  (ps_set hN hi hx pe_dnewK hs hf).imp fun Dn σ H w => by
    obtain ⟨c, F, env, kls, env', g, hf, q⟩ := w
    unfold n0New at hf
    split at hf
    · rename_i hc
      cases hf
      intro p hp
      obtain ⟨g1, n1⟩ := Nest.start g hp
      exact q _ F _ _ p [] (g1.storeEmp hc.2) (Same.refl F) n1 .nil (List.getElem?_set_self (by rw [g.len]; exact hc.1)) (List.getElem?_set_self hc.1)
    · cases hf
/-- d = {k: [] for tg in it} -/
def nInit (tg : TgE) (fk : E) (vs : List Nat) : List D → List (D × D) → Env → Option (List (D × D) × Env)
  | [], acc, e => some (acc, e)
  | d :: ds, acc, e => do
    let e1 ← tg d (wipeE e vs)
    let (rk, e2) ← fk e1
    let (k, e3) ← take rk e2
    if okWipe e3 vs = true ∧ (asKey k).isSome = true ∧ acc.length < sizeLine ∧ (acc.any fun p => PyData.eqv p.1 k) = false then nInit tg fk vs ds (acc ++ [(k, .list [])]) e3 else none
theorem nInit_ok {tg : TgE} {fk : E} {vs : List Nat} : ∀ {ds : List D} {acc out : List (D × D)} {e e' : Env}, okWipe e vs = true → nInit tg fk vs ds acc e = some (out, e') → okWipe e' vs = true
  | [], _, _, _, _, h, hl => by cases hl; exact h
  | d :: ds, acc, out, e, e', h, hl => by
    simp only [nInit, bind, Option.bind_eq_some_iff] at hl
    obtain ⟨_, _, _, _, _, _, hl⟩ := hl
    split at hl
    · rename_i hc; exact nInit_ok hc.1 hl
    · cases hl
def n0Comp (i : Nat) (it : I) (tg : TgE) (fk : E) (vs : List Nat) : Env → Option (List (D × D) × Env) := fun e => (it e).bind fun r =>
  match r with
  | (ds, none, e1) => if okWipe e1 vs = true then (nInit tg fk vs ds [] e1).bind fun q =>
      if i < (restoreE e1 (wipeE q.2 vs) vs).length ∧ ioAt (restoreE e1 (wipeE q.2 vs) vs) i = false then some (q.1, (restoreE e1 (wipeE q.2 vs) vs).set i .emp) else none
    else none
  | _ => none
theorem n0comp_ok {it : I} {ga : TgE} {ws vs : List Nat} (hws : ∀ j ∈ ws, j ∈ vs) {σ : L2.St} {H : Hp} {Dn : Ends} (w : tN0 X.K i (n0Comp i it ga fk vs) Dn σ H) :
    tAsg (tDc (fun σ H R => tI X.K it σ H fun J H' => Siz X.K H' → R J H') (tG X.K ga ws) tYes (tE X.K fk) (tLst tNil) vs) (gName i) Dn σ H := by

    obtain ⟨c, F, env, kls, env', g, hf, q⟩ := w
    unfold n0Comp at hf
    obtain ⟨⟨ds, l, e1⟩, h1, h2⟩ := Option.bind_eq_some_iff.mp hf
    cases l with
    | some _ => cases h2
    | none =>
    dsimp only at h2
    split at h2
    · rename_i hw1
      obtain ⟨⟨out, e2⟩, h3, h4⟩ := Option.bind_eq_some_iff.mp h2
      dsimp only at h4
      split at h4
      · rename_i hio
        cases h4
        refine (ItOk.std (K := X.K) (it := it) (pre := fun _ _ _ _ _ => True)).run g trivial h1 fun J c' F1 H1 hk g1 s1 W hsz siz D hD => ?_
        cases hk
        obtain ⟨Gp, Y, wk, hG, hY⟩ := W
        obtain ⟨g2, n2⟩ := Nest.start g1 hD
        refine dc_it wk (fun m H' => ∃ F' e acc t' es', G X.K (c.wt t') F' H' (wipe σ vs) (wipeE e vs) ∧ Nest c t' D es' ∧ RpE X.K F' es' acc ∧ okWipe e vs = true ∧ Same F1 F' ∧ nInit ga fk vs (ds.drop m) acc e = some (kls, e2))
          ⟨F1, e1, [], _, [], g2.wiped hw1, n2, .nil, hw1, Same.refl F1, h3⟩ (fun m H' _ P => ?_) (fun m x H2 H3 hm P y => ?_) fun H' P => ?_
        · obtain ⟨F', e, acc, t', es', g', n', _, _, s', _⟩ := P
          refine hG (c.wt t') F' H' _ _ ⟨fun i a o hk ht => ?_, fun _ _ h => h⟩ g' s'
          have h1 : a ≠ D := fun z => n'.fp.2.2 i (by rw [← z]; exact hk)
          have h1' : ∀ e ∈ es', a ≠ e.l := fun e he z => (n'.fl e he).2.2 i (by rw [← z]; exact hk)
          show t' a = some o
          rw [n'.out a h1 h1']; exact ht
        · obtain ⟨F2, e, acc, t', es', g2, n2, ra, hw, s2, hl⟩ := P
          have cle : CtxLe c (c.wt t') := ⟨fun i a o hk ht => by
            have h1 : a ≠ D := fun z => n2.fp.2.2 i (by rw [← z]; exact hk)
            have h1' : ∀ e ∈ es', a ≠ e.l := fun e he z => (n2.fl e he).2.2 i (by rw [← z]; exact hk)
            show t' a = some o
            rw [n2.out a h1 h1']; exact ht, fun _ _ h => h⟩
          obtain ⟨d, F3, hd, g3, s3, rd, _⟩ := hY m H2 x H3 _ F2 _ _ hm cle g2 s2 y
          have hdrop : ds.drop m = d :: ds.drop (m + 1) := by
            obtain ⟨hlt, e'⟩ := List.getElem?_eq_some_iff.mp hd
            rw [← e']; exact List.drop_eq_getElem_cons hlt
          rw [hdrop] at hl
          simp only [nInit, bind, Option.bind_eq_some_iff] at hl
          obtain ⟨ea, h5, ⟨rk, eb⟩, h6, ⟨k', ec⟩, h7, h8⟩ := hl
          split at h8
          · rename_i hw4
            obtain ⟨hw5, hkey, hlen, hany⟩ := hw4
            refine ⟨_, F3, _, d, ea, g3, rd, h5, fun σ4 F4 H4 o4 g4 s4 => ⟨off_wipe o4 hws, ?_⟩⟩
            unfold tYes
            dsimp only
            rw [if_pos rfl]
            refine ⟨_, F4, ea, rk, eb, g4, h6, fun y F6 H6 g6 s6 r6 => ?_⟩
            obtain ⟨F7, g7, s7, r7⟩ := take_ok g6 r6 h7
            obtain ⟨k0, hk0⟩ := Option.isSome_iff_exists.mp hkey
            have ek := asKey_eq hk0
            have ey := take_key hk0 r7
            subst ek
            refine ⟨Nat.zero_le _, fun l hl => ?_⟩
            obtain ⟨m1, m2, m3⟩ := g7.new hl
            have hlt : t' l = none := m2.2
            have g8 : G X.K (c.wt (upd t' l (.lst []))) F7 (upd H6 l (.lst [])) σ4 ec := g7.hold hl
            have s27 := ((s3.trans s4).trans s6).trans s7
            have ra7 := ra.mono s27
            have hks := ra.keys hany
            obtain ⟨t9, g9, n9⟩ := n2.add' g8 hlt m2.1 (fun i z => (g7.lkc i l z).1 hlt) hks
            have hp1 : upd H6 l (.lst []) D = some (.dK (kvsOf es')) := (g8.tmp D _ (by
              show upd t' l (.lst []) D = _
              rw [upd_ne fun z => by rw [← z, n2.dict] at hlt; cases hlt]; exact n2.dict)).1
            have hnone : valV (kvsOf es') k0 = none := by
              cases hq : valV (kvsOf es') k0 with
              | none => rfl
              | some w =>
                have := valV_in hq
                obtain ⟨kv, hkv, hk1⟩ := List.mem_map.mp this
                obtain ⟨e', he', rfl⟩ := List.mem_map.mp hkv
                exact absurd hk1 (hks e' he')
            refine ⟨kvsOf es', k0, ey, hp1, by rw [List.length_map, ra.length]; exact hlen, F7, ec, acc ++ [(kD k0, .list [])], t9, es' ++ [⟨k0, l, []⟩], ?_, n9, ra7.snoc, hw5, s2.trans s27, h8⟩
            rw [putK_new _ hnone]
            have g10 := g9.wiped hw5
            rw [off_wipe o4 hws] at g10
            simpa [kvsOf] using g10
          · cases h8
        · obtain ⟨F', e, acc, t', es', g', n', ra, hw, s', hl⟩ := P
          rw [List.drop_length] at hl
          cases hl
          have g2 := g'.restore g1 s' hw1 (okWipe_wiped hw)
          have hlen : i < σ.length := by
            have := g2.len
            rw [this]; exact hio.1
          exact q _ F' H' t' D es' (g2.storeEmp hio.2) (s1.trans s') n' ra (List.getElem?_set_self hlen) (List.getElem?_set_self hio.1)
      · cases h4
    · cases h2
end
theorem jn0_comp {tg iter kx : Expr} {it : I} {ga : TgE} {ws : List Nat} {y : Str} {py spos : Pos} {scope : Scope} {own : List (Str × Nat)} (hc : X.calm = true) (hN : X.N.Nodup) (hi : JI X tg iter it) (ok : BlkOk X.N X.env.scope scope own)
    (hg : ∀ (s : Shared) (H : Hp) (C : Addr) (cl : List (Str × Addr)) (fp : List Addr), JG (X.blk s H scope (compEnvC scope cl C X.env) fp) tg ga ws)
    (hk : ∀ (s : Shared) (H : Hp) (C : Addr) (cl : List (Str × Addr)) (fp : List Addr), JE (X.blk s H scope (compEnvC scope cl C X.env) fp) kx fk)
    (hws : ∀ j ∈ ws, j ∈ own.map (·.2) := by decide) (hs : ∀ x, foldedSetIterable iter X.env x = pure x := by intro _; rfl)
    (hy : X.N[i]? = some y := by rfl) (hyl : X.env.scope.names.lookup y = some .local := by rfl)
    (hsw : swapsWith (.DictComp kx (.List [] p1) [⟨tg, iter, [], 0⟩] scope pos) (some (.Name y py)) spos.line X.env = pure true := by exact sw_trueD rfl rfl rfl (by decide +kernel)) :
    PS X (.Assign [.Name y py] (.DictComp kx (.List [] p1) [⟨tg, iter, [], 0⟩] scope pos) spos) (tN0 X.K i (n0Comp i it ga fk (own.map (·.2)))) :=
  (ps_setDc (g := tG X.K ga ws) (tk := tE X.K fk) hc hN hy hyl hsw hi.siz ok hg (fun _ _ _ _ _ => pts_nil) hk (fun _ _ _ _ _ => pe_lst pa_nil) hs).imp fun Dn σ H w => n0comp_ok hws w
theorem jn0_compC {tg iter kx : Expr} {it : I} {ga : TgE} {ws : List Nat} {y : Str} {py spos : Pos} {scope : Scope} {own : List (Str × Nat)} (hc : X.calm = true) (hN : X.N.Nodup) (hi : JI X tg iter it) (ok : BlkOk X.N X.env.scope scope own)
    (hg : ∀ (s : Shared) (H : Hp) (C : Addr) (cl : List (Str × Addr)) (fp : List Addr), JG (X.blk s H scope (compEnvC scope cl C X.env) fp) tg ga ws)
    (hk : ∀ (s : Shared) (H : Hp) (C : Addr) (cl : List (Str × Addr)) (fp : List Addr), JE (X.blk s H scope (compEnvC scope cl C X.env) fp) kx fk)
    (hws : ∀ j ∈ ws, j ∈ own.map (·.2) := by decide) (hs : ∀ x, foldedSetIterable iter X.env x = pure x := by intro _; rfl)
    (hy : X.N[i]? = some y := by rfl) (hx : Loc X.env.scope y := by first | exact Or.inl rfl | exact Or.inr rfl) (hsw : swapsWith (.DictComp kx (.List [] p1) [⟨tg, iter, [], 0⟩] scope pos) (some (.Name y py)) spos.line X.env = pure false := by rfl)
    (hf : X.fn y = true ∨ X.env.scope.names.lookup y = some .local := by first | exact .inl rfl | exact .inr rfl) :
    PS X (.Assign [.Name y py] (.DictComp kx (.List [] p1) [⟨tg, iter, [], 0⟩] scope pos) spos) (tN0 X.K i (n0Comp i it ga fk (own.map (·.2)))) :=
  (ps_set hN hy hx (pe_dc (g := tG X.K ga ws) (tk := tE X.K fk) hc hN hi.siz ok hg (fun _ _ _ _ _ => pts_nil) hk (fun _ _ _ _ _ => pe_lst pa_nil) hs) hsw hf).imp fun Dn σ H w => n0comp_ok hws w
theorem gNm_off {i j : Nat} (h : j ≠ i) : ∀ d e e', gNm j d e = some e' → e'[i]? = e[i]? := fun d e e' q => by
  unfold gNm at q
  split at q
  · cases q
  · cases q; exact List.getElem?_set_ne h
theorem gTp2_off {i j k : Nat} (h : j ≠ i) (h' : k ≠ i) : ∀ d e e', gTp 2 (gsCons (gNm j) (gsCons (gNm k) gsNil)) d e = some e' → e'[i]? = e[i]? := fun d e e' q => by
  unfold gTp at q
  split at q
  · split at q
    · rename_i ds _ 
      match ds, q with
      | [], q => cases q
      | [_], q =>
        simp only [gsCons, bind, Option.bind_eq_some_iff] at q
        obtain ⟨_, _, z⟩ := q
        cases z
      | a :: b :: r, q =>
        simp only [gsCons, bind, Option.bind_eq_some_iff] at q
        obtain ⟨e1, h1, e2, h2, h3⟩ := q
        unfold gsNil at h3
        split at h3
        · cases h3; exact (gNm_off h' _ _ _ h2).trans (gNm_off h _ _ _ h1)
        · cases h3
    · cases q
  · cases q
end Ev
set_option Elab.async false
set_option linter.all false
set_option maxRecDepth 100000
set_option maxHeartbeats 4000000
/-! Ev29: len(set(xs)), xs a list of ints and texts, of any length below the scan's bound. -/
namespace Ev
open PySem PySem.Spec PyProof.Rows L2
instance decMemK (k : Key) (l : List Key) : Decidable (k ∈ l) := decidable_of_iff (l.any (fun j => decide (j = k)) = true) (by simp)
/-- each once -/
def ddK (xs : List Key) : List Key := xs.foldl (fun acc k => if k ∈ acc then acc else acc ++ [k]) []
theorem ddK_snoc (xs : List Key) (k : Key) : ddK (xs ++ [k]) = if k ∈ ddK xs then ddK xs else ddK xs ++ [k] := by
  unfold ddK
  rw [List.foldl_append]
  rfl
theorem ddK_le (xs : List Key) : (ddK xs).length ≤ xs.length := by
  have : ∀ (ys acc : List Key), (ys.foldl (fun acc k => if k ∈ acc then acc else acc ++ [k]) acc).length ≤ acc.length + ys.length := by
    intro ys
    induction ys with
    | nil => intro acc; simp
    | cons y ys ih =>
      intro acc
      rw [List.foldl_cons]
      refine Nat.le_trans (ih _) ?_
      split <;> simp <;> omega
  simpa [ddK] using this xs []
/-- the set at a holds just xs -/
abbrev HasK (P : Program) (w : World) (h : Heap) (a : Addr) (xs : List Key) : Prop := h.SetOf (mixKind P w) a (fun j => decide (j ∈ ddK xs)) (ddK xs).length
section
variable {P : Program} {w : World} {h h' : Heap} {a : Addr} {xs : List Key} {z : Key}
theorem HasK.keep (R : HasK P w h a xs) (k : ∀ o, h.get? a = some o → h'.get? a = some o) : HasK P w h' a xs := setOf_at R k
theorem HasK.snoc (R : h.SetOf (mixKind P w) a (fun j => decide (j ∈ ddK xs) || decide (j = z)) (if decide (z ∈ ddK xs) = true then (ddK xs).length else (ddK xs).length + 1)) : HasK P w h a (xs ++ [z]) := by
  have e1 : (fun j => decide (j ∈ ddK xs) || decide (j = z)) = fun j => decide (j ∈ ddK (xs ++ [z])) := funext fun j => by
    rw [ddK_snoc]
    by_cases hz : z ∈ ddK xs <;> by_cases hj : j = z <;> simp [hz, hj, List.mem_append]
  have e2 : (if decide (z ∈ ddK xs) = true then (ddK xs).length else (ddK xs).length + 1) = (ddK (xs ++ [z])).length := by
    rw [ddK_snoc]
    by_cases hz : z ∈ ddK xs <;> simp [hz]
  rw [e1, e2] at R
  exact R
end
section
variable {P : Program} {w : World} {A : Around}
/-- the loop behind set(it), m turns before its end -/
theorem set_turns {R : Result → Shared → Prop} {it : Addr} {fp wr : List Addr} {Gn : Array GenState → Array GenState → Prop} {n : Nat} {Vl : Nat → Value → Prop} {St : Nat → Shared → Prop}
    (W : WalksS P w A.in1 it fp wr Gn n Vl St) {a : Addr} (ha : a ∉ fp) {ks : List Key} (hlen : ks.length = n) (hroom : n + 1 < scanBound) (hk : ∀ i v, Vl i v → ∃ z, ks[i]? = some z ∧ RelV (kV z) v) :
    ∀ (m i : Nat) (s : Shared), i + m = n → St i s → HasK P w s.heap a (ks.take i) → (∀ t, Moved (a :: wr) Gn s t → HasK P w t.heap a ks → R (.ok (.ret .none)) t) → codeAny (model P w) A (.builtin "set.update.loop" ⟨[.ref a, .ref it], []⟩) R s
  | 0, i, s, e, st, hs, done => by
    obtain rfl : i = n := by omega
    refine codeAny_builtin F.entry_set_update_loop (Eq.mpr (congrArg (fun B => wpAny _ B _ _ _ s) (Around.under_plainId F.plain_set_update_loop _)) ?_)
    refine wpAny_bind (W.done s _ _ st fun t mv => wpAny_pure (done t (mv.mono fun b => List.mem_cons_of_mem a) ?_))
    rw [List.take_of_length_le (by omega)] at hs
    exact hs.keep fun o => mv.heap a o fun z => ha (W.sub _ z)
  | m + 1, i, s, e, st, hs, done => by
    refine codeAny_builtin F.entry_set_update_loop (Eq.mpr (congrArg (fun B => wpAny _ B _ _ _ s) (Around.under_plainId F.plain_set_update_loop _)) ?_)
    refine wpAny_bind (W.item i s _ _ (by omega) st fun v t hv st2 mv => ?_)
    obtain ⟨z, hz, rz⟩ := hk i v hv
    have ht : HasK P w t.heap a (ks.take i) := hs.keep fun o => mv.heap a o fun q => ha (W.sub _ q)
    refine wpAny_bind (wpAny_holding (wpAny_holding (wpAny_bind ((mixKind P w).pyHash (kV_is rz) ?_))))
    have b1 := ddK_le (ks.take i)
    rw [List.length_take] at b1
    refine wpAny_setAddHashed_of (s := { t with toks := t.toks + 1 }) (kV_is rz) (key_scan rz) ht (by omega) fun g same grown => wpAny_pure ⟨plainId_quiet F.plain_set_update_loop _, ?_⟩
    have hg : HasK P w g a (ks.take (i + 1)) := by
      rw [List.take_add_one, hz]
      exact HasK.snoc grown
    refine set_turns W ha hlen hroom hk m (i + 1) _ (by omega) (W.frame _ t _ _ st2 (Nat.le_succ _) fun b hb o q => (same.2 b fun y => ha (y ▸ hb)).trans q) hg fun u mv2 hu => done u ?_ hu
    exact Moved.trans W.gtrans ((mv.mono fun b => List.mem_cons_of_mem a).then_heap (Nat.le_succ _) fun b o hb q => (same.2 b fun y => hb (y ▸ List.mem_cons_self)).trans q) mv2
/-- a new set's record, still empty -/
abbrev eRec (b : Bool) : Obj := { cls := .type "set", dict := none, data := .set #[] 0 (.fresh 0 0 b) }
theorem eRec_has {h : Heap} {a : Addr} {b : Bool} (e : h.get? a = some (eRec b)) : HasK P w h a [] := ⟨_, #[], 0, _, e, ⟨rfl, rfl, rfl⟩, rfl, fun _ q => by simp at q, fun _ => by simp [ddK], by decide, rfl, rfl⟩
variable {E : Value → Shared → Prop} {s : Shared}
/-- what is asked of the heap behind set(l) -/
abbrev SetMade (P : Program) (w : World) (s : Shared) (ks : List Key) (g : Heap) : Prop := HasK P w g s.heap.objs.size ks ∧ ∀ b o, b < s.heap.objs.size → s.heap.get? b = some o → g.get? b = some o
/-- set(l) of a list of keys -/
theorem set_of_keys {l : Addr} {its : Array Value} {ks : List Key} {Q : Value → Shared → Prop} (calm : A.handled = none) (hl : s.heap.IsList l its) (hlen : ks.length = its.size) (hk : ∀ (i : Nat) (v : Value), its[i]? = some v → ∃ z, ks[i]? = some z ∧ RelV (kV z) v) (hroom : ks.length + 1 < scanBound)
    (q : ∀ g tk, SetMade P w s ks g → Q (.ref s.heap.objs.size) { s with heap := g, toks := tk }) : wpAny (model P w) A (call (.type "set") [.ref l]) Q E s := by
  have cs := F.called_set
  obtain ⟨_, _, z1⟩ := cs.mro
  have z2 := cs.made; have z3 := cs.sub; have z4 := cs.notType; have z5 := cs.canCreate
  have z6 := F.typeCall_set_1 (.ref l)
  have quiet : (Code.builtin "type.__call__" ⟨[.type "set", .ref l], []⟩).quiet = true := Code.quiet_builtin _ (by decide +kernel)
  refine wpAny_call (codeAny_of_tree ?_); change wpAny _ _ (callAny (.type "set") _) _ _ s; refine wpAny_pure ⟨quiet, codeAny_builtin F.entry_type_call ?_⟩
  rw [Around.under_plain (weight_type_call_type "set" [.ref l] []) rfl]; repeat (any_goals (first | exact z1 | assumption | wp_step))
  refine codeAny_mono (code_set_new_1 (.ref l) (E := E) (Q₁ := fun o t => ∃ b, o = .ref s.heap.objs.size ∧ t = { s with heap := s.heap.push (eRec b) }) fun b => ⟨b, rfl, rfl⟩) fun r t made => ?_
  match r, made with
  | .error _, made => exact made
  | .ok .next, made => exact made.elim
  | .ok .brk, made => exact made.elim
  | .ok .cont, made => exact made.elim
  | .ok (.ret _), ⟨b, e1, e2⟩ =>
  subst e1 e2
  have at1 : (s.heap.push (eRec b)).get? s.heap.objs.size = some (eRec b) := Heap.get?_push_size _ rfl
  have ty : Shared.TypeIs { s with heap := s.heap.push (eRec b) } (.ref s.heap.objs.size) "set" := ⟨_, at1, rfl⟩
  have y1 := cs.init.lookup; have y2 := cs.init.bind (.ref s.heap.objs.size)
  repeat (any_goals (first | exact y1 | assumption | wp_step))
  refine codeAny_mono (codeAny_call_builtin (R := wants (fun v t => v = .none ∧ ∃ g tk, t = { s with heap := g, toks := tk } ∧ SetMade P w s ks g) E) cs.init.plain F.entry_set_init (check_set_init_1 ty ?_)) fun r t full => ?_
  · have lsz : l < s.heap.objs.size := let ⟨_, o, _⟩ := hl; Heap.lt_size o
    have hl1 := hl.push (eRec b)
    obtain ⟨⟨c0, d0, da, s0⟩, ho, hc, n0, hd⟩ := hl1
    simp only at hc hd
    subst hc hd
    have y3 := F.sub_list_set; have y4 := F.sub_list_frozenset
    have y5 : (Value.type "list" == Value.type "dict") = false := by decide
    have hl1 : (s.heap.push (eRec b)).IsList l its := ⟨_, ho, rfl, n0, rfl⟩
    unfold Builtin.«set.__init__» noKeywords Builtin.Frozenset.updateFrom; generalize hPI : pyIter = PI; wp_walk; subst hPI
    refine wpAny_pyIter_list hl1 (wpAny_bind (wpAny_runValue ?_))
    have nw : s.heap.objs.size ∉ [(s.heap.push (eRec b)).objs.size, l] := fun m => by
      rw [Heap.size_push] at m
      rcases List.mem_cons.mp m with e | m
      · exact Nat.ne_of_lt (Nat.lt_succ_self _) e
      · exact Nat.ne_of_gt lsz (List.mem_singleton.mp m)
    have nl : l ≠ (s.heap.push (eRec b)).objs.size := fun e => by
      rw [Heap.size_push] at e
      exact Nat.ne_of_lt (Nat.lt_succ_of_lt lsz) e
    refine set_turns ((Walks.list (by simp [calm]) _ l nl its).toS) nw hlen (by omega) hk its.size 0 _ (by omega) ⟨⟨_, Heap.get?_push_size _ rfl, rfl, rfl⟩, hl1.push _⟩ (eRec_has (b := b) (Heap.get?_push_of_some _ at1)) fun u mv hu => ?_
    obtain ⟨g, g1, g2, tk, g3⟩ := u
    obtain rfl : g1 = s.gens := mv.gens
    obtain rfl : g2 = s.drawn := mv.drawn
    obtain rfl : g3 = s.os := mv.os
    change wpAny _ _ _ _ _ _; refine wpAny_pure ?_; change wpAny _ _ (ret Value.none) _ _ _; refine wpAny_pure ⟨rfl, g, tk, rfl, hu, fun c o hc e => mv.heap c o ?_ (Heap.get?_push_of_some _ (Heap.get?_push_of_some _ e))⟩
    intro m
    rw [Heap.size_push] at m
    rcases List.mem_cons.mp m with e | m
    · exact Nat.ne_of_lt hc e
    · rcases List.mem_cons.mp m with e | m
      · exact Nat.ne_of_lt (Nat.lt_succ_of_lt hc) e
      · cases m
  · match r, full with
    | .error _, full => exact full
    | .ok .next, full => exact full.elim
    | .ok .brk, full => exact full.elim
    | .ok .cont, full => exact full.elim
    | .ok (.ret _), ⟨e1, g, tk, e2, hg⟩ =>
    subst e1 e2
    repeat (any_goals (first | exact z3 | assumption | wp_step))
    exact q g _ hg
end

section
variable {X : Cx}
def tLenKeys (K : PySem.W.Frag) (ta : TE) : TE := fun σ H Q => ta σ H fun x H1 => ∃ (l : Addr) (ks : List Key), x = .ref l ∧ SqL K H1 l (ks.map kV) ∧ ks.length + 1 < scanBound ∧ Q (.int (ddK ks).length) H1
theorem kV_at {ks : List Key} {us : List Value} (r : Vals (ks.map kV) us) : ∀ (i : Nat) (v : Value), us.toArray[i]? = some v → ∃ z, ks[i]? = some z ∧ RelV (kV z) v := fun i v hv => by
  have hv' : us[i]? = some v := by simpa using hv
  have hi : i < us.length := (List.getElem?_eq_some_iff.mp hv').1
  have hl := r.length
  rw [List.length_map] at hl
  have hx : (ks.map kV)[i]? = some (kV ks[i]) := by rw [List.getElem?_map, List.getElem?_eq_getElem (by omega)]; rfl
  obtain ⟨u, hu, ru⟩ := Vals.get r hx
  rw [hv'] at hu
  cases hu
  exact ⟨ks[i], List.getElem?_eq_getElem (by omega), ru⟩
theorem pe_lenKeys {a : Expr} {ta : TE} {p p2 q pos : Pos} (hc : X.calm = true) (B : Bl X.mg) (ha : PE X a ta) (g1 : Gl X "len") (g2 : Gl X "set") (na : starEach [a] X.env = (false, eval a X.env) :: starEach [] X.env) :
    PE X (.Call (.Name "len" p) [.Call (.Name "set" p2) [a] [] q] [] pos) (tLenKeys X.K ta) := ⟨fun pins s σ H Q I h => by
  refine Call_ (ld_blt I g1 B.len boot_len (callWith_builtin1 (args_cons (Call_ (ld_blt I g2 B.set boot_set ?_)) rfl) rfl rfl))
  refine callWith_type1 (args_cons (thn (ha.run pins s σ H _ I h) fun v s1 ⟨x, H1, I1, r1, l, ks, e, hq, hr, done⟩ => args_nil ?_) na) na rfl
  subst e
  cases r1
  obtain ⟨us, r, pl, _⟩ := I1.list hq
  have hz : ks.length = us.toArray.size := by have := r.length; rw [List.length_map] at this; simpa using this
  refine set_of_keys (I1.ok.hd hc) pl.isList hz (kV_at r) hr fun g tk ⟨hs, hg⟩ => args_nil ?_
  obtain ⟨o, es, ep, t, z1, z2, z3, _, _, _, z4, z5⟩ := hs
  have b1 := ddK_le ks
  have b2 : scanBound = 4096 := rfl
  have I2 : Inv X pins σ H1 { s1 with heap := g, toks := tk } := I1.kept fun b o e => hg b o (Heap.lt_size e) e
  exact call_len_set z1 z2 z3 z4 (by rw [z5] <;> omega) ⟨.int (ddK ks).length, H1, I2.tok _, ⟨_, by rw [z5]⟩, done⟩⟩
def opLenSet : D → Option Rs
  | .list ds => match asKeys ds with
    | some ks => if ks.length < 4000 then some (.shr (.int (ddK ks).length)) else none
    | none => none
  | _ => none
theorem je_lenSet {a : Expr} {fa : E} {p p2 q pos : Pos} (hc : X.calm = true) (B : Bl X.mg) (ha : JE X a fa) (g1 : Gl X "len" := by rfl) (g2 : Gl X "set" := by rfl)
    (na : starEach [a] X.env = (false, eval a X.env) :: starEach [] X.env := by rfl) : JE X (.Call (.Name "len" p) [.Call (.Name "set" p2) [a] [] q] [] pos) (eUn opLenSet fa) :=
  (pe_lenKeys hc B ha g1 g2 na).imp fun σ H Q w => by
    obtain ⟨c, F, env, res, env', g, hf, q⟩ := w
    simp only [eUn, bind, Option.bind_eq_some_iff, pure, Option.some.injEq] at hf
    obtain ⟨⟨ra, e1⟩, ha, d, hd, r', hr, e⟩ := hf
    cases e
    refine ⟨c, F, env, ra, _, g, ha, fun v F1 H1 g1 s1 r1 => ?_⟩
    have ox := look_ok g1 r1 hd
    unfold opLenSet at hr
    split at hr
    · rename_i ds
      split at hr
      · rename_i ks hks
        split at hr
        · rename_i hl
          cases hr
          have := asKeys_eq hks
          subst this
          obtain ⟨b, xs, rfl, hL, rx⟩ := ox.list g1.sub
          have ex : xs = ks.map kV := rx.keys
          subst ex
          exact ⟨b, ks, rfl, hL.sq, by show _ < 4096; omega, q _ F1 H1 g1 s1 (.int _)⟩
        · cases hr
      · cases hr
    · cases hr
end
end Ev
set_option Elab.async false
set_option linter.all false
set_option maxRecDepth 100000
set_option maxHeartbeats 1000000
/-! Ev30: != and == of two dicts of ints. -/
namespace Ev
open PySem PySem.Spec PyProof.Rows L2 PySem.W
/-- the items ka of a dict looked up in kb -/
inductive HitsV (kb : List (Key × V)) : List (Key × V) → Bool → Prop
  | nil : HitsV kb [] true
  | miss {k : Key} {v : V} {r : List (Key × V)} : valV kb k = none → HitsV kb ((k, v) :: r) false
  | hit {k : Key} {i j : Int} {r : List (Key × V)} {b : Bool} : valV kb k = some (.int j) → HitsV kb r b → HitsV kb ((k, .int i) :: r) (decide (i = j) && b)
theorem hitsV_run {A : Around} {s : Shared} {kb : List (Key × V)} {vb : List (Key × Value)} (rb : KV kb vb) {ka : List (Key × V)} {va : List (Key × Value)} {b : Bool} (ra : KV ka va) (h : HitsV kb ka b) : PySem.W.KeqHits A s vb va b := by
  unfold KV at ra
  induction h generalizing va with
  | nil => cases ra; exact .nil
  | @miss k v r hn =>
    cases ra with
    | @cons p q ps qs h t =>
      obtain ⟨key, u⟩ := q
      obtain ⟨h1, h2⟩ := h
      have h1' : k = key := h1
      subst h1'
      refine .miss ?_
      have rr := rb.val k
      rw [hn] at rr
      cases e : valueAt vb k with
      | none => rfl
      | some y => rw [e] at rr; cases rr
  | @hit k i j r b hj _ ih =>
    cases ra with
    | @cons p q ps qs h t =>
      obtain ⟨key, u⟩ := q
      obtain ⟨h1, h2⟩ := h
      have h1' : k = key := h1
      subst h1'
      have rr := rb.val k
      rw [hj] at rr
      obtain ⟨y, hy, ry⟩ := rr.some_of
      obtain ⟨t1, rfl⟩ := (show ∃ t, u = Value.int i t from h2)
      obtain ⟨t2, rfl⟩ := (show ∃ t, y = Value.int j t from ry)
      have e : PyData.eqv (.int i) (.int j) = decide (i = j) := Datum.eqv i j
      have hq := PySem.W.keq_flat (A := A) (s := s) (PyProof.V.Flat.int i t1) (PyProof.V.Flat.int j t2)
      rw [e] at hq
      exact .hit hy hq (ih t)
def rNeD (K : PySem.W.Frag) : R2 := fun x y H Q => ∃ a b ka kb r, x = .ref a ∧ y = .ref b ∧ Rd H a (.dK ka) ∧ Rd H b (.dK kb) ∧ HitsV kb ka r ∧ Q (.bl (!(ka.length == kb.length && r))) H
def rEqD (K : PySem.W.Frag) : R2 := fun x y H Q => ∃ a b ka kb r, x = .ref a ∧ y = .ref b ∧ Rd H a (.dK ka) ∧ Rd H b (.dK kb) ∧ HitsV kb ka r ∧ Q (.bl (ka.length == kb.length && r)) H
section
variable {X : Cx}
theorem op_neD (hu : Rm X) : OpR X (compareOp .NotEq) (rNeD X.K) := by
  intro pins s σ H x y v u Q I rx ry h
  obtain ⟨a, b, ka, kb, r, rfl, rfl, ha, hb, hh, q⟩ := h
  cases (show v = Value.ref a from rx)
  cases (show u = Value.ref b from ry)
  obtain ⟨_, ya, va, ra, da⟩ := dk_rd I.hok ha
  obtain ⟨_, yb, vb, rb, db⟩ := dk_rd I.hok hb
  refine PySem.W.keq_ne (knd := mixKind X.prog X.w) (r := r) ya yb da db (by unfold Rm at hu; omega) (fun _ => hitsV_run rb ra hh) ?_
  rw [← ra.length, ← rb.length]
  exact ⟨.bl _, H, I, rfl, q⟩
theorem op_eqD (hu : Rm X) : OpR X (compareOp .Eq) (rEqD X.K) := by
  intro pins s σ H x y v u Q I rx ry h
  obtain ⟨a, b, ka, kb, r, rfl, rfl, ha, hb, hh, q⟩ := h
  cases (show v = Value.ref a from rx)
  cases (show u = Value.ref b from ry)
  obtain ⟨_, ya, va, ra, da⟩ := dk_rd I.hok ha
  obtain ⟨_, yb, vb, rb, db⟩ := dk_rd I.hok hb
  refine PySem.W.keq_eq (knd := mixKind X.prog X.w) (r := r) ya yb da db (by unfold Rm at hu; omega) (fun _ => hitsV_run rb ra hh) ?_
  rw [← ra.length, ← rb.length]
  exact ⟨.bl _, H, I, rfl, q⟩
end
/-- the same, of data -/
def hitsD (kb : List (D × D)) : List (D × D) → Option Bool
  | [] => some true
  | (k, d) :: r => match dget kb k, d with
    | none, _ => some false
    | some (.int j), .int i => (hitsD kb r).map fun b => decide (i = j) && b
    | _, _ => none
def eqDD (ka kb : List (D × D)) : Option Bool := if kindOf ka ≠ 2 ∧ kindOf kb ≠ 2 then (hitsD kb ka).map fun b => ka.length == kb.length && b else none
def opNeD : D → D → Option Rs
  | .dict ka, .dict kb => (eqDD ka kb).map fun b => .shr (.bool (!b))
  | _, _ => none
def opEqD : D → D → Option Rs
  | .dict ka, .dict kb => (eqDD ka kb).map fun b => .shr (.bool b)
  | _, _ => none
section
variable {K : PySem.W.Frag} {F H : Hp}
theorem hits_data {kb : List (Key × V)} {db : List (D × D)} (rb : RpK K F kb db) : ∀ {ka : List (Key × V)} {da : List (D × D)} {r : Bool}, RpK K F ka da → hitsD db da = some r → HitsV kb ka r
  | _, _, r, .nil, h => by cases h; exact .nil
  | _, _, r, @RpK.cons _ _ k v ka d da h1 h2, h => by
    have hg := rb.get k
    unfold hitsD at h
    cases e : dget db (kD k) with
    | none =>
      rw [e] at h hg
      cases h
      refine .miss ?_
      cases e2 : valV kb k with
      | none => rfl
      | some y => rw [e2] at hg; cases hg
    | some y =>
      rw [e] at h hg
      cases y with
      | int j =>
        cases d with
        | int i =>
          obtain ⟨b, hb, rfl⟩ := Option.map_eq_some_iff.mp h
          cases h1
          refine .hit ?_ (hits_data rb h2 hb)
          cases e2 : valV kb k with
          | none => rw [e2] at hg; cases hg
          | some z =>
            rw [e2] at hg
            cases (show Rp K F z (.int j) from hg); rfl
        | _ => cases h
      | _ => cases d <;> cases h
theorem dk_data {v : V} {ds : List (D × D)} (s : Sub F H) (o : Obs K F H v (.dict ds)) (hk : kindOf ds ≠ 2) : ∃ a kvs, v = .ref a ∧ Rd H a (.dK kvs) ∧ RpK K F kvs ds := by
  rcases o.dict s with h | ⟨a, kvs, rfl, n, h1, h2⟩
  · exact h
  · exact absurd (h2.kind n) hk
end
theorem ok_neD {K : PySem.W.Frag} : OpOk K (rNeD K) opNeD := by
  intro c F H σ env x y da db res g ox oy h Q q
  unfold opNeD at h
  split at h
  · rename_i ka kb
    obtain ⟨b, hb, rfl⟩ := Option.map_eq_some_iff.mp h
    unfold eqDD at hb
    split at hb
    · rename_i hk
      obtain ⟨r, hr, rfl⟩ := Option.map_eq_some_iff.mp hb
      obtain ⟨a1, k1, rfl, h1, h2⟩ := dk_data g.sub ox hk.1
      obtain ⟨a2, k2, rfl, h3, h4⟩ := dk_data g.sub oy hk.2
      refine ⟨a1, a2, k1, k2, r, rfl, rfl, h1, h3, hits_data h4 h2 hr, ?_⟩
      rw [h2.length, h4.length]
      exact shrOk g (.bl _) q
    · cases hb
  · cases h
theorem ok_eqD {K : PySem.W.Frag} : OpOk K (rEqD K) opEqD := by
  intro c F H σ env x y da db res g ox oy h Q q
  unfold opEqD at h
  split at h
  · rename_i ka kb
    obtain ⟨b, hb, rfl⟩ := Option.map_eq_some_iff.mp h
    unfold eqDD at hb
    split at hb
    · rename_i hk
      obtain ⟨r, hr, rfl⟩ := Option.map_eq_some_iff.mp hb
      obtain ⟨a1, k1, rfl, h1, h2⟩ := dk_data g.sub ox hk.1
      obtain ⟨a2, k2, rfl, h3, h4⟩ := dk_data g.sub oy hk.2
      refine ⟨a1, a2, k1, k2, r, rfl, rfl, h1, h3, hits_data h4 h2 hr, ?_⟩
      rw [h2.length, h4.length]
      exact shrOk g (.bl _) q
    · cases hb
  · cases h
theorem cr_neD {X : Cx} (hu : Rm X) : CmpR X .NotEq opNeD := ⟨_, op_neD hu, ok_neD⟩
theorem cr_eqD {X : Cx} (hu : Rm X) : CmpR X .Eq opEqD := ⟨_, op_eqD hu, ok_eqD⟩
end Ev
set_option Elab.async false
set_option linter.all false
set_option maxRecDepth 100000
set_option maxHeartbeats 4000000
/-! Ev31: sorted(set(xs)), xs a list of fewer than 63 ints. -/
namespace Ev
open PySem PySem.Spec PyProof.Rows L2
/-- sorted, each once -/
def insI (x : Int) : List Int → List Int
  | [] => [x]
  | y :: ys => if x < y then x :: y :: ys else if x = y then y :: ys else y :: insI x ys
def ssI (ns : List Int) : List Int := ns.foldr insI []
theorem insI_mem {x z : Int} : ∀ {ys : List Int}, z ∈ insI x ys ↔ z = x ∨ z ∈ ys
  | [] => by simp [insI]
  | y :: ys => by
    unfold insI
    split
    · simp
    · split
      · rename_i h; subst h; simp
      · rw [List.mem_cons, insI_mem, List.mem_cons]
        constructor
        · rintro (h | h | h)
          · exact .inr (.inl h)
          · exact .inl h
          · exact .inr (.inr h)
        · rintro (h | h | h)
          · exact .inr (.inl h)
          · exact .inl h
          · exact .inr (.inr h)
theorem insI_lt {x : Int} : ∀ {ys : List Int}, ys.Pairwise (· < ·) → (insI x ys).Pairwise (· < ·)
  | [], _ => by simp [insI]
  | y :: ys, h => by
    have h' := List.pairwise_cons.mp h
    unfold insI
    split
    · rename_i hx
      refine List.pairwise_cons.mpr ⟨fun z hz => ?_, h⟩
      rcases List.mem_cons.mp hz with e | e
      · rw [e]; exact hx
      · have := h'.1 z e; omega
    · split
      · exact h
      · refine List.pairwise_cons.mpr ⟨fun z hz => ?_, insI_lt h'.2⟩
        rcases insI_mem.mp hz with e | e
        · omega
        · exact h'.1 z e
theorem ssI_mem {z : Int} : ∀ {ns : List Int}, z ∈ ssI ns ↔ z ∈ ns
  | [] => by simp [ssI]
  | n :: ns => by
    show z ∈ insI n (ssI ns) ↔ _
    rw [insI_mem, ssI_mem, List.mem_cons]
theorem ssI_lt : ∀ ns : List Int, (ssI ns).Pairwise (· < ·)
  | [] => List.Pairwise.nil
  | n :: ns => insI_lt (ssI_lt ns)
theorem lt_unique : ∀ {xs ys : List Int}, xs.Pairwise (· < ·) → ys.Pairwise (· < ·) → (∀ z, z ∈ xs ↔ z ∈ ys) → xs = ys
  | [], [], _, _, _ => rfl
  | [], y :: ys, _, _, h => absurd ((h y).mpr List.mem_cons_self) List.not_mem_nil
  | x :: xs, [], _, _, h => absurd ((h x).mp List.mem_cons_self) List.not_mem_nil
  | x :: xs, y :: ys, h1, h2, h => by
    have a := List.pairwise_cons.mp h1
    have b := List.pairwise_cons.mp h2
    have e : x = y := by
      rcases List.mem_cons.mp ((h x).mp List.mem_cons_self) with q | q
      · exact q
      · rcases List.mem_cons.mp ((h y).mpr List.mem_cons_self) with q' | q'
        · exact q'.symm
        · have := b.1 x q
          have := a.1 y q'
          omega
    subst e
    congr 1
    refine lt_unique a.2 b.2 fun z => ⟨fun hz => ?_, fun hz => ?_⟩
    · rcases List.mem_cons.mp ((h z).mp (List.mem_cons_of_mem _ hz)) with q | q
      · have := a.1 z hz; omega
      · exact q
    · rcases List.mem_cons.mp ((h z).mpr (List.mem_cons_of_mem _ hz)) with q | q
      · have := b.1 z hz; omega
      · exact q
section
variable {P : Program} {w : World} {A : Around} {E : Value → Shared → Prop} {s : Shared}
/-- what set(l) of ints leaves -/
abbrev SetMadeI (w : World) (s : Shared) (ns : List Int) (g : Heap) : Prop := (∃ c, c ≤ ns.length ∧ SetR w g s.heap.objs.size (fun j => decide (j ∈ ns)) c) ∧ ∀ b o, b < s.heap.objs.size → s.heap.get? b = some o → g.get? b = some o
/-- set(l) of a list of ints -/
theorem set_of_ints {l : Addr} {its : Array Value} {ns : List Int} {Q : Value → Shared → Prop} (calm : A.handled = none) (hl : s.heap.IsList l its) (hlen : its.size = ns.length) (hk : ∀ (i : Nat) (v : Value), its[i]? = some v → ∃ k t, ns[i]? = some k ∧ v = .int k t) (hroom : ns.length + 1 < scanBound)
    (q : ∀ g tk, SetMadeI w s ns g → Q (.ref s.heap.objs.size) { s with heap := g, toks := tk }) : wpAny (model P w) A (call (.type "set") [.ref l]) Q E s := by
  have cs := F.called_set
  obtain ⟨_, _, z1⟩ := cs.mro
  have z2 := cs.made; have z3 := cs.sub; have z4 := cs.notType; have z5 := cs.canCreate
  have z6 := F.typeCall_set_1 (.ref l)
  have quiet : (Code.builtin "type.__call__" ⟨[.type "set", .ref l], []⟩).quiet = true := Code.quiet_builtin _ (by decide +kernel)
  refine wpAny_call (codeAny_of_tree ?_); change wpAny _ _ (callAny (.type "set") _) _ _ s; refine wpAny_pure ⟨quiet, codeAny_builtin F.entry_type_call ?_⟩
  rw [Around.under_plain (weight_type_call_type "set" [.ref l] []) rfl]; repeat (any_goals (first | exact z1 | assumption | wp_step))
  refine codeAny_mono (code_set_led1 (.ref l) (E := E) (Q₁ := fun o t => o = .ref s.heap.objs.size ∧ t = { s with heap := s.heap.push (eRec (!w.params.followText "set-order")) }) ⟨rfl, rfl⟩) fun r t made => ?_
  match r, made with
  | .error _, made => exact made
  | .ok .next, made => exact made.elim
  | .ok .brk, made => exact made.elim
  | .ok .cont, made => exact made.elim
  | .ok (.ret _), ⟨e1, e2⟩ =>
  subst e1 e2
  have at1 : (s.heap.push (eRec (!w.params.followText "set-order"))).get? s.heap.objs.size = some (eRec (!w.params.followText "set-order")) := Heap.get?_push_size _ rfl
  have ty : Shared.TypeIs { s with heap := s.heap.push (eRec (!w.params.followText "set-order")) } (.ref s.heap.objs.size) "set" := ⟨_, at1, rfl⟩
  have y1 := cs.init.lookup; have y2 := cs.init.bind (.ref s.heap.objs.size)
  repeat (any_goals (first | exact y1 | assumption | wp_step))
  refine codeAny_mono (codeAny_call_builtin (R := wants (fun v t => v = .none ∧ ∃ g tk, t = { s with heap := g, toks := tk } ∧ SetMadeI w s ns g) E) cs.init.plain F.entry_set_init (check_set_init_1 ty ?_)) fun r t full => ?_
  · have lsz : l < s.heap.objs.size := let ⟨_, o, _⟩ := hl; Heap.lt_size o
    have hl1 := hl.push (eRec (!w.params.followText "set-order"))
    obtain ⟨⟨c0, d0, da, s0⟩, ho, hc, n0, hd⟩ := hl1
    simp only at hc hd
    subst hc hd
    have y3 := F.sub_list_set; have y4 := F.sub_list_frozenset
    have y5 : (Value.type "list" == Value.type "dict") = false := by decide
    have hl1 : (s.heap.push (eRec (!w.params.followText "set-order"))).IsList l its := ⟨_, ho, rfl, n0, rfl⟩
    unfold Builtin.«set.__init__» noKeywords Builtin.Frozenset.updateFrom; generalize hPI : pyIter = PI; wp_walk; subst hPI
    refine wpAny_pyIter_list hl1 (wpAny_bind (wpAny_runValue ?_))
    have nw : s.heap.objs.size ∉ [(s.heap.push (eRec (!w.params.followText "set-order"))).objs.size, l] := fun m => by
      rw [Heap.size_push] at m
      rcases List.mem_cons.mp m with e | m
      · exact Nat.ne_of_lt (Nat.lt_succ_self _) e
      · exact Nat.ne_of_gt lsz (List.mem_singleton.mp m)
    have nl : l ≠ (s.heap.push (eRec (!w.params.followText "set-order"))).objs.size := fun e => by
      rw [Heap.size_push] at e
      exact Nat.ne_of_lt (Nat.lt_succ_of_lt lsz) e
    refine set_update_ints ((Walks.list (by simp [calm]) _ l nl its).toS) s.heap.objs.size nw ns hlen hroom hk its.size 0 _ (by omega) (by omega) ⟨⟨_, Heap.get?_push_size _ rfl, rfl, rfl⟩, hl1.push _⟩ ⟨0, Nat.le_refl _, setR_new_at (Heap.get?_push_of_some _ at1)⟩ fun u cnt mv hcnt hu => ?_
    obtain ⟨g, g1, g2, tk, g3⟩ := u
    obtain rfl : g1 = s.gens := mv.gens
    obtain rfl : g2 = s.drawn := mv.drawn
    obtain rfl : g3 = s.os := mv.os
    change wpAny _ _ _ _ _ _; refine wpAny_pure ?_; change wpAny _ _ (ret Value.none) _ _ _; refine wpAny_pure ⟨rfl, g, tk, rfl, ⟨cnt, by omega, hu⟩, fun c o hc e => mv.heap c o ?_ (Heap.get?_push_of_some _ (Heap.get?_push_of_some _ e))⟩
    intro m
    rw [Heap.size_push] at m
    rcases List.mem_cons.mp m with e | m
    · exact Nat.ne_of_lt hc e
    · rcases List.mem_cons.mp m with e | m
      · exact Nat.ne_of_lt (Nat.lt_succ_of_lt hc) e
      · cases m
  · match r, full with
    | .error _, full => exact full
    | .ok .next, full => exact full.elim
    | .ok .brk, full => exact full.elim
    | .ok .cont, full => exact full.elim
    | .ok (.ret _), ⟨e1, g, tk, e2, hg⟩ =>
    subst e1 e2
    repeat (any_goals (first | exact z3 | assumption | wp_step))
    exact q g _ hg
end
section
variable {X : Cx}
def tSsI (K : PySem.W.Frag) (ta : TE) : TE := fun σ H Q => ta σ H fun x H1 => ∃ (l : Addr) (ns : List Int), x = .ref l ∧ SqL K H1 l (ns.map V.int) ∧ ns.length < 63 ∧ ∀ p, H1 p = none → Q (.ref p) (upd H1 p (.lst ((ssI ns).map V.int)))
theorem int_at {ns : List Int} {us : List Value} (r : Vals (ns.map V.int) us) : ∀ (i : Nat) (v : Value), us.toArray[i]? = some v → ∃ k t, ns[i]? = some k ∧ v = .int k t := fun i v hv => by
  have hv' : us[i]? = some v := by simpa using hv
  have hi : i < us.length := (List.getElem?_eq_some_iff.mp hv').1
  have hl := r.length
  rw [List.length_map] at hl
  have hx : (ns.map V.int)[i]? = some (.int ns[i]) := by rw [List.getElem?_map, List.getElem?_eq_getElem (by omega)]; rfl
  obtain ⟨u, hu, ru⟩ := Vals.get r hx
  rw [hv'] at hu
  cases hu
  obtain ⟨t, rfl⟩ := ru
  exact ⟨ns[i], t, List.getElem?_eq_getElem (by omega), rfl⟩
theorem pe_ssI {a : Expr} {ta : TE} {p p2 q pos : Pos} (hc : X.calm = true) (B : Bl X.mg) (ha : PE X a ta) (g1 : Gl X "sorted") (g2 : Gl X "set") (b1 : bootBuiltins "sorted" = some (.builtin "sorted")) (na : starEach [a] X.env = (false, eval a X.env) :: starEach [] X.env) :
    PE X (.Call (.Name "sorted" p) [.Call (.Name "set" p2) [a] [] q] [] pos) (tSsI X.K ta) := ⟨fun pins s σ H Q I h => by
  refine Call_ (ld_blt I g1 B.sorted b1 (callWith_builtin1 (args_cons (Call_ (ld_blt I g2 B.set boot_set ?_)) rfl) rfl rfl))
  refine callWith_type1 (args_cons (thn (ha.run pins s σ H _ I h) fun v s1 ⟨x, H1, I1, r1, l, ns, e, hq, hr, done⟩ => args_nil ?_) na) na rfl
  subst e
  cases r1
  obtain ⟨us, r, pl, _⟩ := I1.list hq
  have hz : us.toArray.size = ns.length := by have := r.length; rw [List.length_map] at this; simpa using this.symm
  have hsb : scanBound = 4096 := rfl
  refine set_of_ints (I1.ok.hd hc) pl.isList hz (int_at r) (by omega) fun g tk ⟨⟨c, hcn, R⟩, hg⟩ => args_nil ?_
  have I2 : Inv X pins σ H1 { s1 with heap := g, toks := tk } := I1.kept fun b o e => hg b o (Heap.lt_size e) e
  refine sorted_set R (I2.ok.hd hc) (by omega) fun s' p out c' ms k gg o hp hgp hi hs hm hl => ?_
  have e : ms = ssI ns := lt_unique hs (ssI_lt ns) fun z => by rw [hm z, ssI_mem]; simp
  subst e
  have fr : H1 p = none := I2.hok.fresh hp
  have hsz : ((ssI ns).map V.int).length ≤ sizeLine := by rw [List.length_map, hl, sizeLine_eq]; omega
  obtain ⟨sh, sg, sd, st, so⟩ := s'
  cases gg
  cases o
  have J : Inv X pins σ (upd H1 p (.lst ((ssI ns).map V.int))) { heap := sh, gens := s1.gens, drawn := sd, toks := st, os := s1.os } :=
    Inv.call (s := { s1 with heap := g, toks := tk }) I2 (ch := []) (Un.laid k hp fr) (I2.hok.laid k hp ⟨hsz, out.toList, c', vals_of_ints hi, hgp⟩) I2.bare fun _ z => nomatch z
  exact ⟨.ref p, _, J, rfl, done p fr⟩⟩
def opSsI : D → Option Rs
  | .list ds => match asInts ds with
    | some ns => if ns.length < 63 then some (.new (.list ((ssI ns).map .int))) else none
    | none => none
  | _ => none
theorem rpa_ints {K : PySem.W.Frag} {F : Hp} : ∀ ns : List Int, RpA K F (ns.map V.int) (ns.map PyData.int)
  | [] => .nil
  | n :: ns => .cons (.int n) (rpa_ints ns)
theorem je_ssI {a : Expr} {fa : E} {p p2 q pos : Pos} (hc : X.calm = true) (B : Bl X.mg) (ha : JE X a fa) (b1 : bootBuiltins "sorted" = some (.builtin "sorted") := by decide +kernel) (g1 : Gl X "sorted" := by rfl) (g2 : Gl X "set" := by rfl)
    (na : starEach [a] X.env = (false, eval a X.env) :: starEach [] X.env := by rfl) : JE X (.Call (.Name "sorted" p) [.Call (.Name "set" p2) [a] [] q] [] pos) (eUn opSsI fa) :=
  (pe_ssI hc B ha g1 g2 b1 na).imp fun σ H Q w => by
    obtain ⟨c, F, env, res, env', g, hf, q⟩ := w
    simp only [eUn, bind, Option.bind_eq_some_iff, pure, Option.some.injEq] at hf
    obtain ⟨⟨ra, e1⟩, ha, d, hd, r', hr, e⟩ := hf
    cases e
    refine ⟨c, F, env, ra, _, g, ha, fun v F1 H1 g1 s1 r1 => ?_⟩
    have ox := look_ok g1 r1 hd
    unfold opSsI at hr
    split at hr
    · rename_i ds
      split at hr
      · rename_i ns hns
        split at hr
        · rename_i hl
          cases hr
          obtain ⟨b, xs, rfl, hL, rx⟩ := ox.list g1.sub
          have ex := asInts_ok hns rx
          subst ex
          refine ⟨b, ns, rfl, hL.sq, hl, fun p hp => ?_⟩
          obtain ⟨g2, r2⟩ := g1.laidNew hp (.lst upd_same (rpa_ints (ssI ns)))
          exact q _ _ _ g2 s1 r2
        · cases hr
      · cases hr
    · cases hr
end
end Ev
set_option Elab.async false
set_option linter.all false
set_option maxRecDepth 100000
set_option maxHeartbeats 1000000
/-! Pv1: how evaluators answer: steps, loops, comprehensions, typed data. -/
namespace Ev
open PySem PySem.Spec PyProof.Rows L2 PySem.W

/-! ### runs -/
/-- the run ends, and its end is as asked -/
def Wp (o : Option Out) (Q : Out → Prop) : Prop := ∃ x, o = some x ∧ Q x
theorem Wp.mono {o : Option Out} {Q Q' : Out → Prop} (h : Wp o Q) (i : ∀ x, Q x → Q' x) : Wp o Q' := let ⟨x, e, q⟩ := h; ⟨x, e, i x q⟩
theorem Wp.of {o : Option Out} {x : Out} {Q : Out → Prop} (e : o = some x) (q : Q x) : Wp o Q := ⟨x, e, q⟩
section
variable {f g : S} {e e1 e2 : Env} {r : Rs} {Q : Out → Prop}
theorem wp_seq (h : Wp (f e) (fun o => match o with | .nx e1 => Wp (g e1) Q | o => Q o)) : Wp (sSeq f g e) Q := by
  obtain ⟨x, ex, q⟩ := h
  cases x with
  | nx e1 => obtain ⟨y, ey, qy⟩ := q; exact ⟨y, by simp only [sSeq, ex, bind, Option.bind, ey], qy⟩
  | rt r e1 => exact ⟨_, by simp only [sSeq, ex, bind, Option.bind, pure], q⟩
  | bk e1 => exact ⟨_, by simp only [sSeq, ex, bind, Option.bind, pure], q⟩
  | ct e1 => exact ⟨_, by simp only [sSeq, ex, bind, Option.bind, pure], q⟩
theorem wp_nx (h : f e = some (.nx e1)) (k : Wp (g e1) Q) : Wp (sSeq f g e) Q := wp_seq ⟨_, h, k⟩
theorem wp_asg {i : Nat} {fa : E} (h : fa e = some (r, e1)) (h2 : store i r e1 = some e2) (k : Wp (g e2) Q) : Wp (sSeq (sAsg i fa) g e) Q := wp_nx (by simp only [sAsg, h, bind, Option.bind, h2, pure]) k
theorem wp_expr {fa : E} (h : fa e = some (r, e1)) (k : Wp (g e1) Q) : Wp (sSeq (sExpr fa) g e) Q := wp_nx (by simp only [sExpr, h, bind, Option.bind, pure]) k
theorem wp_ret {fa : E} (h : fa e = some (r, e1)) (k : Q (.rt r e1)) : Wp (sRet fa e) Q := ⟨_, by simp only [sRet, h, bind, Option.bind, pure], k⟩
theorem wp_if {t : T} {b : Bool} (h : t e = some (b, e1)) (ht : b = true → Wp (f e1) Q) (hf : b = false → Wp (g e1) Q) : Wp (sIf t f g e) Q := by
  obtain ⟨x, ex, q⟩ : Wp (if b then f e1 else g e1) Q := by
    cases b with
    | true => exact ht rfl
    | false => exact hf rfl
  exact ⟨x, by simp only [sIf, h, bind, Option.bind]; exact ex, q⟩
/-- a test that only leads out: behind it, it does not hold -/
theorem wp_out {t : T} {h : S} {b : Bool} (ht : t e = some (b, e1)) (hr : b = true → Wp (f e1) (fun o => match o with | .nx e1 => Wp (h e1) Q | o => Q o)) (hn : b = false → Wp (h e1) Q) : Wp (sSeq (sIf t f sNil) h e) Q :=
  wp_seq (wp_if ht hr fun z => ⟨_, rfl, hn z⟩)
theorem wp_loop {tg : TgE} {body : S} {R : Out → Prop} (I : Nat → Env → Prop) : ∀ (ds : List D) (k : Nat) (e : Env), I k e →
    (∀ i d ei, ds[i]? = some d → I (k + i) ei → ∃ e2, tg d ei = some e2 ∧ Wp (body e2) (fun o => match o with | .nx e3 => I (k + i + 1) e3 | .ct e3 => I (k + i + 1) e3 | .bk e3 => R (.nx e3) | .rt r e3 => R (.rt r e3))) →
    (∀ e', I (k + ds.length) e' → R (.nx e')) → Wp (loopF tg body ds e) R
  | [], k, e, h0, _, hd => ⟨_, rfl, hd e h0⟩
  | d :: ds, k, e, h0, hs, hd => by
    obtain ⟨e2, h1, o, h2, q⟩ := hs 0 d e rfl h0
    have go : ∀ e3, I (k + 1) e3 → Wp (loopF tg body ds e3) R := fun e3 h3 => wp_loop I ds (k + 1) e3 h3 (fun i d ei hd hi => by
      have e : k + 1 + i = k + (i + 1) := by omega
      rw [e] at hi ⊢
      exact hs (i + 1) d ei (by simpa using hd) hi) fun e' h => hd e' (by
      have e : k + (d :: ds).length = k + 1 + ds.length := by simp only [List.length_cons]; omega
      rw [e]; exact h)
    cases o with
    | nx e3 => obtain ⟨x, ex, qx⟩ := go e3 q; exact ⟨x, by simp only [loopF, h1, h2, bind, Option.bind]; exact ex, qx⟩
    | ct e3 => obtain ⟨x, ex, qx⟩ := go e3 q; exact ⟨x, by simp only [loopF, h1, h2, bind, Option.bind]; exact ex, qx⟩
    | bk e3 => exact ⟨_, by simp only [loopF, h1, h2, bind, Option.bind], q⟩
    | rt r e3 => exact ⟨_, by simp only [loopF, h1, h2, bind, Option.bind], q⟩
theorem wp_for {it : I} {tg : TgE} {body : S} {ds : List D} {l : Option Nat} (I : Nat → Env → Prop) (hit : it e = some (ds, l, e1)) (h0 : I 0 e1)
    (hs : ∀ i d ei, ds[i]? = some d → I i ei → ∃ e2, tg d ei = some e2 ∧ Wp (body e2) (fun o => match o with | .nx e3 => I (i + 1) e3 | .ct e3 => I (i + 1) e3 | .bk e3 => Wp (unlockO l (.nx e3)) Q | .rt r e3 => Wp (unlockO l (.rt r e3)) Q))
    (hd : ∀ e', I ds.length e' → Wp (unlockO l (.nx e')) Q) : Wp (sFor it tg body e) Q := by
  obtain ⟨x, ex, qx⟩ : Wp (loopF tg body ds e1) fun o => Wp (unlockO l o) Q := wp_loop I ds 0 e1 h0 (fun i d ei hi h => by
    rw [Nat.zero_add] at h ⊢
    obtain ⟨e2, h1, h2⟩ := hs i d ei hi h
    exact ⟨e2, h1, h2.mono fun x => by cases x <;> exact id⟩) fun e' h => hd e' (by rwa [Nat.zero_add] at h)
  obtain ⟨y, ey, qy⟩ := qx
  exact ⟨y, by simp only [sFor, hit, ex, bind, Option.bind]; exact ey, qy⟩
theorem wp_while {t : T} {body : S} (I : Nat → Env → Prop) {n : Nat} (hn : n < 1000000000000) (h0 : I n e)
    (hs : ∀ m e', I m e' → (∃ e1, t e' = some (false, e1) ∧ Q (.nx e1)) ∨ ∃ e1, t e' = some (true, e1) ∧ Wp (body e1) (fun o => match o with | .nx e3 => ∃ k, k < m ∧ I k e3 | .ct e3 => ∃ k, k < m ∧ I k e3 | .bk e3 => Q (.nx e3) | .rt r e3 => Q (.rt r e3))) : Wp (sWhile t body e) Q := by
  have go : ∀ m e', I m e' → Wp (loopW t body (m + 1) e') Q := by
    intro m
    induction m using Nat.strongRecOn with
    | _ m ih =>
    intro e' h
    rcases hs m e' h with ⟨e1, h1, q⟩ | ⟨e1, h1, o, h2, q⟩
    · exact ⟨_, by simp only [loopW, h1, bind, Option.bind]; rfl, q⟩
    · have up : ∀ e3, (∃ k, k < m ∧ I k e3) → Wp (loopW t body m e3) Q := fun e3 ⟨k, hk, hi⟩ => by
        obtain ⟨x, ex, qx⟩ := ih k hk e3 hi
        exact ⟨x, loopW_mono (by omega) ex, qx⟩
      cases o with
      | nx e3 => obtain ⟨x, ex, qx⟩ := up e3 q; exact ⟨x, by simp only [loopW, h1, h2, bind, Option.bind, if_true]; exact ex, qx⟩
      | ct e3 => obtain ⟨x, ex, qx⟩ := up e3 q; exact ⟨x, by simp only [loopW, h1, h2, bind, Option.bind, if_true]; exact ex, qx⟩
      | bk e3 => exact ⟨_, by simp only [loopW, h1, h2, bind, Option.bind, if_true], q⟩
      | rt r e3 => exact ⟨_, by simp only [loopW, h1, h2, bind, Option.bind, if_true], q⟩
  obtain ⟨x, ex, qx⟩ := go n e h0
  exact ⟨x, sWhile_of (by omega) ex, qx⟩
end
/-- the def's end -/
def RetQ (r : Rs) : Out → Prop
  | .rt r' e => retR r' e = some r
  | .nx _ => r = .shr .none
  | _ => False
def RetW (r : Rs) (w : List D) : Out → Prop
  | .rt r' e => retR r' e = some r ∧ ioW e = some w
  | .nx e => r = .shr .none ∧ ioW e = some w
  | _ => False
theorem fnF_ok {n N : Nat} {f : S} {ds : List D} {r : Rs} (hl : ds.length = n) (h : Wp (f (envF N ds)) (RetQ r)) : fnF n N f ds = some (r, []) := by
  obtain ⟨x, ex, q⟩ := h
  unfold fnF
  rw [if_pos hl, ex]
  cases x with
  | rt r' e => show (match retR r' e with | some r' => some (r', []) | none => none) = _; rw [show retR r' e = some r from q]
  | nx e => cases (show r = _ from q); rfl
  | bk e => exact q.elim
  | ct e => exact q.elim
theorem fnW_ok {n N : Nat} {f : S} {d0 ds w : List D} {r : Rs} (hl : ds.length + 1 = n) (h : Wp (f (.io (.list d0) :: envF (N - 1) ds)) (RetW r w)) : fnW n N f (.list d0 :: ds) = some (r, w) := by
  obtain ⟨x, ex, q⟩ := h
  simp only [fnW]
  rw [if_pos hl, ex]
  cases x with
  | rt r' e => show (match retR r' e with | some r' => (ioW e).map (fun w => (r', w)) | none => none) = _; rw [show retR r' e = some r from q.1, show ioW e = some w from q.2]; rfl
  | nx e => cases (show r = _ from q.1); show (ioW e).map _ = _; rw [show ioW e = some w from q.2]; rfl
  | bk e => exact q.elim
  | ct e => exact q.elim

/-! ### comprehensions -/
theorem restoreE_at {e0 e : Env} (hl : e0.length = e.length) {j : Nat} : ∀ {vs : List Nat}, j ∈ vs → (restoreE e0 e vs)[j]? = e0[j]?
  | v :: vs, h => by
    unfold restoreE
    by_cases hj : v = j
    · subst hj
      cases hs : e0[v]? with
      | none =>
        dsimp only
        have : ¬ v < e0.length := fun z => by rw [List.getElem?_eq_getElem z] at hs; cases hs
        rw [List.getElem?_eq_none_iff, restoreE_len]; omega
      | some s =>
        dsimp only
        have : v < e0.length := (List.getElem?_eq_some_iff.mp hs).1
        rw [List.getElem?_set_self (by rw [restoreE_len]; omega)]
    · have h' : j ∈ vs := by
        rcases List.mem_cons.mp h with z | z
        · exact absurd z.symm hj
        · exact z
      cases hs : e0[v]? with
      | none => exact restoreE_at hl h'
      | some s => dsimp only; rw [List.getElem?_set_ne hj]; exact restoreE_at hl h'
theorem restoreE_wipe {e e' : Env} {vs : List Nat} (h : wipeE e' vs = wipeE e vs) : restoreE e (wipeE e' vs) vs = e := by
  refine List.ext_getElem? fun j => ?_
  rw [h]
  by_cases hj : j ∈ vs
  · exact restoreE_at (by rw [wipeE_len]) hj
  · rw [restoreE_out hj, wipeE_out hj]
theorem loopC_fm {tg : TgE} {t : T} {f : E} {vs : List Nat} {W : Env} {p : D → Bool} {g : D → D} : ∀ {ds : List D} {e : Env}, wipeE e vs = W → 
    (∀ d ∈ ds, ∃ e2, tg d W = some e2 ∧ t e2 = some (p d, e2) ∧ okWipe e2 vs = true ∧ wipeE e2 vs = W ∧ (p d = true → ∃ r, f e2 = some (r, e2) ∧ take r e2 = some (g d, e2))) →
    ∃ e', loopC tg t f vs ds e = some ((ds.filter p).map g, e') ∧ wipeE e' vs = W
  | [], e, hW, _ => ⟨e, rfl, hW⟩
  | d :: ds, e, hW, h => by
    obtain ⟨e2, h1, h2, h3, h4, h5⟩ := h d List.mem_cons_self
    obtain ⟨e', h6, h7⟩ := loopC_fm (ds := ds) h4 fun d hd => h d (List.mem_cons_of_mem _ hd)
    refine ⟨e', ?_, h7⟩
    cases hp : p d with
    | true =>
      obtain ⟨r, h8, h9⟩ := h5 hp
      rw [hp] at h2
      simp only [loopC, hW, h1, h2, h8, h9, h3, h6, bind, Option.bind, if_true, pure, List.filter_cons_of_pos hp, List.map_cons]
    | false =>
      rw [hp] at h2
      simp only [loopC, hW, h1, h2, h3, h6, bind, Option.bind, List.filter_cons_of_neg (show ¬ p d = true by rw [hp]; exact Bool.false_ne_true)]
      rfl
theorem eComp_fm {it : I} {tg : TgE} {t : T} {f : E} {vs : List Nat} {e e1 e3 : Env} {l : Option Nat} {ds : List D} (p : D → Bool) (g : D → D) (hit : it e = some (ds, l, e1)) (hw : okWipe e1 vs = true) (hu : unlockE l e1 = some e3)
    (h : ∀ d ∈ ds, ∃ e2, tg d (wipeE e1 vs) = some e2 ∧ t e2 = some (p d, e2) ∧ okWipe e2 vs = true ∧ wipeE e2 vs = wipeE e1 vs ∧ (p d = true → ∃ r, f e2 = some (r, e2) ∧ take r e2 = some (g d, e2))) :
    eComp it tg t f vs e = some (.new (.list ((ds.filter p).map g)), e3) := by
  obtain ⟨e2, h1, h2⟩ := loopC_fm (e := e1) rfl h
  simp only [eComp, hit, hw, h1, restoreE_wipe h2, hu, bind, Option.bind, if_true, pure]
/-- one name, typed -/
theorem eComp_nm {α β : Type} {it : I} {t : T} {f : E} {i : Nat} {e e1 e3 : Env} {l : Option Nat} (xs : List α) (enc : α → D) (enc' : β → D) (p : α → Bool) (g : α → β) (hit : it e = some (xs.map enc, l, e1)) (hw : okWipe e1 [i] = true) (hu : unlockE l e1 = some e3)
    (ht : ∀ x ∈ xs, t (e1.set i (.frz (enc x))) = some (p x, e1.set i (.frz (enc x)))) (hf : ∀ x ∈ xs, p x = true → ∃ r, f (e1.set i (.frz (enc x))) = some (r, e1.set i (.frz (enc x))) ∧ take r (e1.set i (.frz (enc x))) = some (enc' (g x), e1.set i (.frz (enc x)))) :
    eComp it (gNm i) t f [i] e = some (.new (.list (((xs.filter p).map g).map enc')), e3) := by
  have hi : i < e1.length := by
    rcases okWipe_at hw (List.mem_singleton.mpr rfl) with z | ⟨d, z⟩ <;> exact (List.getElem?_eq_some_iff.mp z).1
  have key : ∀ x : α, wipeE (e1.set i (.frz (enc x))) [i] = wipeE e1 [i] ∧ gNm i (enc x) (wipeE e1 [i]) = some (e1.set i (.frz (enc x))) ∧ okWipe (e1.set i (.frz (enc x))) [i] = true := fun x => by
    refine ⟨by simp only [wipeE, List.set_set], ?_, ?_⟩
    · have : ioAt (wipeE e1 [i]) i = false := by
        unfold ioAt
        simp only [wipeE]
        rw [List.getElem?_set_self hi]
      unfold gNm
      rw [this]
      simp only [wipeE, List.set_set]
      rfl
    · unfold okWipe
      simp only [List.all_cons, List.all_nil, Bool.and_true]
      rw [List.getElem?_set_self hi]
  have lc : ∀ {ys : List α} {e : Env}, (∀ y ∈ ys, y ∈ xs) → wipeE e [i] = wipeE e1 [i] → ∃ e', loopC (gNm i) t f [i] (ys.map enc) e = some (((ys.filter p).map g).map enc', e') ∧ wipeE e' [i] = wipeE e1 [i] := by
    intro ys
    induction ys with
    | nil => intro e _ hW; exact ⟨e, rfl, hW⟩
    | cons y ys ih =>
      intro e hy hW
      have hyx := hy y List.mem_cons_self
      obtain ⟨k1, k2, k3⟩ := key y
      have h2 := ht y hyx
      obtain ⟨e', h6, h7⟩ := ih (e := e1.set i (.frz (enc y))) (fun z hz => hy z (List.mem_cons_of_mem _ hz)) k1
      refine ⟨e', ?_, h7⟩
      cases hp : p y with
      | true =>
        obtain ⟨r, h8, h9⟩ := hf y hyx hp
        rw [hp] at h2
        simp only [List.map_cons, loopC, hW, k2, h2, h8, h9, k3, h6, bind, Option.bind, if_true, pure, List.filter_cons_of_pos hp]
      | false =>
        rw [hp] at h2
        simp only [List.map_cons, loopC, hW, k2, h2, k3, h6, bind, Option.bind, List.filter_cons_of_neg (show ¬ p y = true by rw [hp]; exact Bool.false_ne_true)]
        rfl
  obtain ⟨e2, h1, h2⟩ := lc (ys := xs) (e := e1) (fun _ h => h) rfl
  simp only [eComp, hit, hw, h1, restoreE_wipe h2, hu, bind, Option.bind, if_true, pure]

/-! ### typed data -/
section
variable {α : Type} [DecidableEq α] [Datum α]
theorem deep_dat (a : α) (h : Datum.depth α ≤ 64 := by decide) : deep (Datum.toD a) = true := by
  unfold deep
  have := Datum.depth_le a
  simp only [decide_eq_true_eq]; omega
theorem eqOk_dat (a b : α) (h : Datum.depth α ≤ 64 := by decide) : eqOk (Datum.toD a) (Datum.toD b) = true := by
  unfold eqOk
  rw [Datum.plain, Datum.plain, deep_dat a h]; rfl
theorem opEq_dat (a b : α) (h : Datum.depth α ≤ 64 := by decide) : opEq (Datum.toD a) (Datum.toD b) = some (.shr (.bool (decide (a = b)))) := by
  unfold opEq; rw [if_pos (eqOk_dat a b h), Datum.eqv]
theorem opNe_dat (a b : α) (h : Datum.depth α ≤ 64 := by decide) : opNe (Datum.toD a) (Datum.toD b) = some (.shr (.bool (!decide (a = b)))) := by
  unfold opNe; rw [if_pos (eqOk_dat a b h), Datum.eqv]
theorem plainAll_dat : ∀ xs : List α, PyData.plainAll (xs.map Datum.toD) = true
  | [] => rfl
  | x :: xs => by rw [List.map_cons, PyData.plainAll, Datum.plain, plainAll_dat xs]; rfl
theorem inDat_dat (a : α) (xs : List α) : inDat (Datum.toD a) (xs.map Datum.toD) = decide (a ∈ xs) := by
  unfold inDat
  rw [List.any_map]
  induction xs with
  | nil => simp
  | cons x xs ih =>
    rw [List.any_cons, ih]
    simp only [Function.comp, Datum.eqv, List.mem_cons]
    by_cases h1 : a = x
    · subst h1; simp
    · have h2 : ¬ x = a := fun z => h1 z.symm
      simp [h1, h2]
theorem inOk_dat (a : α) (xs : List α) (h : Datum.depth α ≤ 64 := by decide) : inOk (Datum.toD a) (xs.map Datum.toD) = true := by
  unfold inOk
  rw [Datum.plain, plainAll_dat, deep_dat a h]; rfl
theorem opIn_dat (a : α) (xs : List α) (h : Datum.depth α ≤ 64 := by decide) : opIn (Datum.toD a) (.list (xs.map Datum.toD)) = some (.shr (.bool (decide (a ∈ xs)))) := by
  simp only [opIn, inOk_dat a xs h, inDat_dat, if_true]
theorem opNin_dat (a : α) (xs : List α) (h : Datum.depth α ≤ 64 := by decide) : opNin (Datum.toD a) (.list (xs.map Datum.toD)) = some (.shr (.bool (!decide (a ∈ xs)))) := by
  simp only [opNin, inOk_dat a xs h, inDat_dat, if_true]
end
section
variable {α : Type} [DecidableEq α] [DatumOrd α]
theorem ltOk_dat (a b : α) (h : Datum.depth α ≤ 64 := by decide) : ltOk (Datum.toD a) (Datum.toD b) = true := by
  unfold ltOk
  have h1 : isNone (Datum.toD a) = false := by
    have := DatumOrd.notNone a
    cases h : Datum.toD a <;> first | rfl | exact absurd h this
  rw [DatumOrd.alike, h1, deep_dat a h, Datum.plain, Datum.plain]; rfl
theorem opLt_dat (a b : α) (h : Datum.depth α ≤ 64 := by decide) : opLt (Datum.toD a) (Datum.toD b) = some (.shr (.bool (DatumOrd.lt a b))) := by
  unfold opLt; rw [if_pos (ltOk_dat a b h), DatumOrd.lt_eq]
theorem opGt_dat (a b : α) (h : Datum.depth α ≤ 64 := by decide) : opGt (Datum.toD a) (Datum.toD b) = some (.shr (.bool (DatumOrd.lt b a))) := by
  unfold opGt; rw [if_pos (ltOk_dat a b h), DatumOrd.lt_eq]
theorem ordOk_dat (xs : List α) (h : Datum.depth α ≤ 63 := by decide) : ordOk (xs.map Datum.toD) = true := by
  unfold ordOk
  have h1 : alikes (xs.map Datum.toD) = true := by
    unfold alikes
    rw [Bool.or_eq_true]
    right
    simp only [List.all_eq_true, List.mem_map]
    rintro _ ⟨a, _, rfl⟩ _ ⟨b, _, rfl⟩
    exact DatumOrd.alike a b
  have h2 : ((xs.map Datum.toD).all fun d => !isNone d) = true := by
    simp only [List.all_eq_true, List.mem_map]
    rintro _ ⟨a, _, rfl⟩
    have := DatumOrd.notNone a
    cases h : Datum.toD a <;> first | rfl | exact absurd h this
  have h3 := depthAll_map xs
  rw [plainAll_dat, h1, h2]
  simp only [Bool.true_and, decide_eq_true_eq]; omega
theorem opMin_dat (x : α) (xs : List α) (h : Datum.depth α ≤ 63 := by decide) : opMin (.list ((x :: xs).map Datum.toD)) = some (.shr (Datum.toD (minOf x xs))) := by
  have h' := ordOk_dat (x :: xs) h
  rw [List.map_cons] at h' ⊢
  simp only [opMin, h', if_true, minD_map]
theorem opMax_dat (x : α) (xs : List α) (h : Datum.depth α ≤ 63 := by decide) : opMax (.list ((x :: xs).map Datum.toD)) = some (.shr (Datum.toD (maxOf x xs))) := by
  have h' := ordOk_dat (x :: xs) h
  rw [List.map_cons] at h' ⊢
  simp only [opMax, h', if_true, maxD_map]
/-- Python's sorted -/
def srt (xs : List α) : List α := xs.mergeSort fun a b => !DatumOrd.lt b a
theorem dLe_dat (a b : α) : dLe (Datum.toD a) (Datum.toD b) = !DatumOrd.lt b a := by unfold dLe; rw [DatumOrd.lt_eq]
theorem dSort_dat (xs : List α) : dSort (xs.map Datum.toD) = (srt xs).map Datum.toD := by
  unfold dSort srt
  rw [dSortF_eq _ _ (Nat.le_refl _), List.map_mergeSort]
  intro a _ b _
  exact (dLe_dat a b).symm
theorem srt_perm (xs : List α) : (srt xs).Perm xs := List.mergeSort_perm _ _
theorem srt_le (xs : List α) : (srt xs).Pairwise fun a b => DatumOrd.lt b a = false := by
  have := List.pairwise_mergeSort (le := fun a b : α => !DatumOrd.lt b a) (fun a b c h1 h2 => by
    have := dLe_trans (Datum.toD a) (Datum.toD b) (Datum.toD c) (by rw [dLe_dat]; exact h1) (by rw [dLe_dat]; exact h2)
    rwa [dLe_dat] at this) (fun a b => by
    have := dLe_total (Datum.toD a) (Datum.toD b)
    rwa [dLe_dat, dLe_dat] at this) xs
  exact this.imp fun h => by simpa using h
theorem opSorted_dat (xs : List α) (h : Datum.depth α ≤ 63 := by decide) (ht : (∀ a : α, isTupNe (Datum.toD a) = true) ∨ ∀ a : α, isTup (Datum.toD a) = false) : opSortedK (.list (xs.map Datum.toD)) = some (.new (.list ((srt xs).map Datum.toD))) := by
  have : sortOk (xs.map Datum.toD) = true := by
    unfold sortOk
    rw [ordOk_dat xs h, Bool.true_and, Bool.or_eq_true]
    rcases ht with ht | ht
    · left; simp only [List.all_eq_true, List.mem_map]; rintro _ ⟨a, _, rfl⟩; exact ht a
    · right; simp only [List.all_eq_true, List.mem_map]; rintro _ ⟨a, _, rfl⟩; rw [ht a]; rfl
  simp only [opSortedK, opSorted, this, if_true, dSort_dat]
end
end Ev
set_option Elab.async false
set_option linter.all false
set_option maxRecDepth 100000
set_option maxHeartbeats 1000000
/-! Pv2: texts, pairs, dicts by texts, nets' near lists. -/
namespace Ev
open PySem PySem.Spec PyProof.Rows L2 PySem.W

/-! ### texts, ints -/
abbrev sts (xs : List Str) : D := .list (xs.map PyData.str)
abbrev ldD (p : Str × Str) : D := .tuple [.str p.1, .str p.2]
section
variable (a b : Str) (xs ys : List Str) (p q : Str × Str) (ps qs : List (Str × Str))
theorem opEq_str : opEq (.str a) (.str b) = some (.shr (.bool (decide (a = b)))) := opEq_dat a b
theorem opNe_str : opNe (.str a) (.str b) = some (.shr (.bool (!decide (a = b)))) := opNe_dat a b
theorem opIn_str : opIn (.str a) (sts xs) = some (.shr (.bool (decide (a ∈ xs)))) := opIn_dat a xs
theorem opNin_str : opNin (.str a) (sts xs) = some (.shr (.bool (!decide (a ∈ xs)))) := opNin_dat a xs
theorem opLt_str : opLt (.str a) (.str b) = some (.shr (.bool (DatumOrd.lt a b))) := opLt_dat a b
theorem opEq_strs : opEq (sts xs) (sts ys) = some (.shr (.bool (decide (xs = ys)))) := opEq_dat xs ys
theorem opNe_strs : opNe (sts xs) (sts ys) = some (.shr (.bool (!decide (xs = ys)))) := opNe_dat xs ys
theorem opEq_strs0 : opEq (sts xs) (.list []) = some (.shr (.bool (decide (xs = [])))) := opEq_dat xs []
theorem opNe_strs0 : opNe (sts xs) (.list []) = some (.shr (.bool (!decide (xs = [])))) := opNe_dat xs []
theorem opSorted_strs : opSortedK (sts xs) = some (.new (sts (srt xs))) := opSorted_dat xs (ht := .inr fun _ => rfl)
theorem opSorted_lds : opSortedK (.list (ps.map ldD)) = some (.new (.list ((srt ps).map ldD))) := opSorted_dat ps (ht := .inl fun _ => rfl)
theorem opIn_pr : opIn (ldD p) (.list (ps.map ldD)) = some (.shr (.bool (decide (p ∈ ps)))) := (opIn_dat p ps).trans (by congr)
theorem opNin_pr : opNin (ldD p) (.list (ps.map ldD)) = some (.shr (.bool (!decide (p ∈ ps)))) := (opNin_dat p ps).trans (by congr)
end

/-! ### dicts by texts -/
/-- the dict of kn by f -/
def kv (kn : List Str) (f : Str → D) : List (D × D) := kn.map fun k => (.str k, f k)
section
variable {kn : List Str} {f : Str → D} {k : Str}
theorem eqv_str (a b : Str) : PyData.eqv (.str a) (.str b) = decide (a = b) := Datum.eqv a b
theorem kindOf_kv (kn : List Str) (f : Str → D) : kindOf (kv kn f) ≠ 2 := by
  unfold kv
  cases kn <;> simp [kindOf]
theorem keysD_kv (kn : List Str) (f : Str → D) : keysD (kv kn f) = kn.map PyData.str := by unfold keysD kv; simp [List.map_map, Function.comp]
theorem fits_kv (kn : List Str) (f : Str → D) (k : Str) : fits (kv kn f) (.str k) = true := by
  have := kindOf_kv kn f
  simp [fits, this]
theorem fitsE_kv (r : Rs) (e : Env) (kn : List Str) (f : Str → D) (k : Str) : fitsE r e (kv kn f) (.str k) = true := by unfold fitsE; rw [fits_kv]; rfl
theorem dget_kv : ∀ {kn : List Str}, k ∈ kn → dget (kv kn f) (.str k) = some (f k)
  | x :: kn, h => by
    unfold dget kv
    rw [List.map_cons, List.find?_cons]
    by_cases hx : x = k
    · subst hx; simp [eqv_str]
    · have h' : k ∈ kn := by
        rcases List.mem_cons.mp h with z | z
        · exact absurd z.symm hx
        · exact z
      simp only [eqv_str, hx, decide_false]
      exact dget_kv h'
theorem dget_kv_none : ∀ {kn : List Str}, k ∉ kn → dget (kv kn f) (.str k) = none
  | [], _ => rfl
  | x :: kn, h => by
    rw [List.mem_cons, not_or] at h
    unfold dget kv
    rw [List.map_cons, List.find?_cons]
    have hx : ¬ x = k := fun z => h.1 z.symm
    simp only [eqv_str, hx, decide_false]
    exact dget_kv_none h.2
theorem dget_kv_isSome (kn : List Str) (f : Str → D) (k : Str) : (dget (kv kn f) (.str k)).isSome = decide (k ∈ kn) := by
  by_cases h : k ∈ kn
  · rw [dget_kv h]; simp [h]
  · rw [dget_kv_none h]; simp [h]
theorem kv_congr {g : Str → D} (h : ∀ k ∈ kn, f k = g k) : kv kn f = kv kn g := by
  unfold kv
  exact List.map_congr_left fun k hk => by rw [h k hk]
end

/-! ### near lists -/
/-- what one lead adds -/
def nbStep (nb : Str → List Str) (p : Str × Str) : Str → List Str := fun j =>
  let x := if j = p.1 then nb j ++ [p.2] else nb j
  if j = p.2 then x ++ [p.1] else x
def nbs (ld : List (Str × Str)) : Str → List Str := ld.foldl nbStep fun _ => []
abbrev kvN (kn : List Str) (nb : Str → List Str) : List (D × D) := kv kn fun k => sts (nb k)
theorem apD_kvN {nb : Str → List Str} {k v : Str} (hl : (nb k).length < sizeLine) : ∀ {kn : List Str}, kn.Nodup → k ∈ kn → apD (kvN kn nb) (.str k) (.str v) = some (kvN kn fun j => if j = k then nb j ++ [v] else nb j)
  | x :: kn, nd, h => by
    rw [List.nodup_cons] at nd
    unfold kvN kv
    rw [List.map_cons, List.map_cons, apD, eqv_str]
    by_cases hx : x = k
    · subst hx
      have hr : kn.map (fun j => ((PyData.str j : D), sts (nb j))) = kn.map fun j => (PyData.str j, sts (if j = x then nb j ++ [v] else nb j)) := List.map_congr_left fun j hj => by
        have : j ≠ x := fun z => nd.1 (by rw [← z]; exact hj)
        rw [if_neg this]
      simp only [decide_true, if_true, List.length_map, hl, hr]
      simp [sts]
    · have h' : k ∈ kn := by
        rcases List.mem_cons.mp h with z | z
        · exact absurd z.symm hx
        · exact z
      have ih := apD_kvN (v := v) hl nd.2 h'
      unfold kvN kv at ih
      simp only [hx, decide_false, Bool.false_eq_true, if_false, ih, Option.map]
theorem nLoop_inv {tg : TgE} {body : NS} (I : Nat → List (D × D) → Env → Prop) : ∀ (ds : List D) (n : Nat) (k : List (D × D)) (e : Env), I n k e →
    (∀ i d k e, ds[i]? = some d → I (n + i) k e → ∃ e1 k2 e2, tg d e = some e1 ∧ body k e1 = some (k2, e2) ∧ I (n + i + 1) k2 e2) → ∃ k' e', nLoop tg body ds k e = some (k', e') ∧ I (n + ds.length) k' e'
  | [], n, k, e, h0, _ => ⟨k, e, rfl, h0⟩
  | d :: ds, n, k, e, h0, hs => by
    obtain ⟨e1, k2, e2, h1, h2, h3⟩ := hs 0 d k e rfl h0
    obtain ⟨k', e', h4, h5⟩ := nLoop_inv I ds (n + 1) k2 e2 h3 fun i d k e hd hi => by
      have q : n + 1 + i = n + (i + 1) := by omega
      rw [q] at hi ⊢
      exact hs (i + 1) d k e (by simpa using hd) hi
    refine ⟨k', e', by simp only [nLoop, h1, h2, bind, Option.bind]; exact h4, ?_⟩
    have q : n + (d :: ds).length = n + 1 + ds.length := by simp only [List.length_cons]; omega
    rw [q]; exact h5
theorem nbStep_eq (nb : Str → List Str) (p : Str × Str) : (fun j => if j = p.2 then (if j = p.1 then nb j ++ [p.2] else nb j) ++ [p.1] else if j = p.1 then nb j ++ [p.2] else nb j) = nbStep nb p := rfl
theorem nbStep_len (nb : Str → List Str) (p : Str × Str) (k : Str) : (nbStep nb p k).length ≤ (nb k).length + 2 := by
  unfold nbStep
  dsimp only
  split <;> split <;> simp
theorem nbs_len (ld : List (Str × Str)) (k : Str) : (nbs ld k).length ≤ 2 * ld.length := by
  have : ∀ (ld : List (Str × Str)) (nb : Str → List Str), (ld.foldl nbStep nb k).length ≤ (nb k).length + 2 * ld.length := by
    intro ld
    induction ld with
    | nil => intro nb; simp
    | cons p ld ih =>
      intro nb
      rw [List.foldl_cons]
      have h1 := ih (nbStep nb p)
      have h2 := nbStep_len nb p k
      simp only [List.length_cons]; omega
  have := this ld fun _ => []
  simpa [nbs] using this
theorem nbs_take {ld : List (Str × Str)} {i : Nat} {p : Str × Str} (h : ld[i]? = some p) : nbs (ld.take (i + 1)) = nbStep (nbs (ld.take i)) p := by
  unfold nbs
  rw [List.take_add_one, h, List.foldl_append]
  rfl
/-- a slot that may be told anew -/
def osl : Option D → Slot
  | none => .emp
  | some d => .frz d
theorem ioAt_osl {e : Env} {i : Nat} {x : Option D} (h : e[i]? = some (osl x)) : ioAt e i = false := by
  unfold ioAt
  rw [h]
  cases x <;> rfl
/-- the loop over leads -/
theorem near_loop {kn : List Str} {ld : List (Str × Str)} (nd : kn.Nodup) (hk : ∀ p ∈ ld, p.1 ∈ kn ∧ p.2 ∈ kn) (hl : ld.length < 8000000) {s0 s2 : Slot} :
    ∀ x3 x4 : Option D, ∃ x3' x4' : Option D, nLoop (gTp 2 (gsCons (gNm 3) (gsCons (gNm 4) gsNil))) (nSeq (nApp 1 (eV 3) (adCons (eV 4) adNil)) (nSeq (nApp 1 (eV 4) (adCons (eV 3) adNil)) nNil)) (ld.map ldD) (kvN kn fun _ => []) [s0, .emp, s2, osl x3, osl x4]
      = some (kvN kn (nbs ld), [s0, .emp, s2, osl x3', osl x4']) := by
  intro x3 x4
  obtain ⟨k', e', h1, y3, y4, h2, h3⟩ := nLoop_inv (tg := gTp 2 (gsCons (gNm 3) (gsCons (gNm 4) gsNil))) (body := nSeq (nApp 1 (eV 3) (adCons (eV 4) adNil)) (nSeq (nApp 1 (eV 4) (adCons (eV 3) adNil)) nNil))
    (fun i k e => ∃ y3 y4 : Option D, k = kvN kn (nbs (ld.take i)) ∧ e = [s0, .emp, s2, osl y3, osl y4]) (ld.map ldD) 0 (kvN kn fun _ => []) [s0, .emp, s2, osl x3, osl x4] ⟨x3, x4, rfl, rfl⟩ (by
    intro i d k e hd hi
    rw [Nat.zero_add] at hi ⊢
    obtain ⟨y3, y4, rfl, rfl⟩ := hi
    rw [List.getElem?_map] at hd
    obtain ⟨p, hp, rfl⟩ := Option.map_eq_some_iff.mp hd
    have hm := hk p (List.mem_of_getElem? hp)
    have z1 : (nbs (ld.take i) p.1).length < sizeLine := by
      have := nbs_len (ld.take i) p.1
      rw [List.length_take] at this
      rw [sizeLine_eq]; omega
    have a1 := apD_kvN (v := p.2) z1 nd hm.1
    have z2 : ((fun j => if j = p.1 then nbs (ld.take i) j ++ [p.2] else nbs (ld.take i) j) p.2).length < sizeLine := by
      have := nbs_len (ld.take i) p.2
      rw [List.length_take] at this
      have hsz := sizeLine_eq
      dsimp only
      split
      · rw [List.length_append]; simp only [List.length_cons, List.length_nil]; omega
      · omega
    have a2 := apD_kvN (nb := fun j => if j = p.1 then nbs (ld.take i) j ++ [p.2] else nbs (ld.take i) j) (v := p.1) z2 nd hm.2
    refine ⟨[s0, .emp, s2, .frz (.str p.1), .frz (.str p.2)], kvN kn (nbs (ld.take (i + 1))), [s0, .emp, s2, .frz (.str p.1), .frz (.str p.2)], ?_, ?_, some (.str p.1), some (.str p.2), rfl, rfl⟩
    · have g3 : ioAt [s0, .emp, s2, osl y3, osl y4] 3 = false := ioAt_osl (x := y3) rfl
      have g4 : ioAt [s0, .emp, s2, .frz (.str p.1), osl y4] 4 = false := ioAt_osl (x := y4) rfl
      simp [gTp, gsCons, gNm, gsNil, g3, g4]
    · rw [nbs_take hp]
      simp only [nSeq, nApp, eV, adCons, adNil, take, nNil, asKey, isEmp, bind, Option.bind, List.getElem?_cons_succ, List.getElem?_cons_zero, pure, Option.isSome, and_self, if_true, a1, a2, Option.map]
      rfl)
  · rw [Nat.zero_add, List.length_map, List.take_length] at h2
    subst h2; subst h3
    exact ⟨y3, y4, h1⟩

/-! ### dict comprehensions over texts -/
theorem take_shr (d : D) (e : Env) : take (.shr d) e = some (d, e) := rfl
theorem dput_kv {xs : List Str} {f : Str → D} {y : Str} (h : y ∉ xs) : dput (kv xs f) (.str y) (f y) = kv (xs ++ [y]) f := by
  have : ((kv xs f).any fun p => PyData.eqv p.1 (.str y)) = false := by
    rw [List.any_eq_false]
    intro p hp
    obtain ⟨k, hk, rfl⟩ := List.mem_map.mp hp
    simp only [eqv_str, decide_eq_true_eq]
    intro z
    exact h (by rw [← z]; exact hk)
  unfold dput
  rw [this]
  simp [kv]
theorem eDComp_kv {it : I} {fv : E} {i : Nat} {e e1 e3 : Env} {l : Option Nat} (kn : List Str) (f : Str → D) (nd : kn.Nodup) (hl : kn.length < 16000000) (hit : it e = some (kn.map .str, l, e1)) (hw : okWipe e1 [i] = true) (hu : unlockE l e1 = some e3)
    (hf : ∀ k ∈ kn, ∃ r, fv (e1.set i (.frz (.str k))) = some (r, e1.set i (.frz (.str k))) ∧ take r (e1.set i (.frz (.str k))) = some (f k, e1.set i (.frz (.str k)))) :
    eDComp it (gNm i) tYes' (eV i) fv [i] e = some (.new (.dict (kv kn f)), e3) := by
  have hi : i < e1.length := by
    rcases okWipe_at hw (List.mem_singleton.mpr rfl) with z | ⟨d, z⟩ <;> exact (List.getElem?_eq_some_iff.mp z).1
  have key : ∀ d : D, wipeE (e1.set i (.frz d)) [i] = wipeE e1 [i] ∧ gNm i d (wipeE e1 [i]) = some (e1.set i (.frz d)) ∧ okWipe (e1.set i (.frz d)) [i] = true ∧ eV i (e1.set i (.frz d)) = some (.shr d, e1.set i (.frz d)) := fun d => by
    refine ⟨by simp only [wipeE, List.set_set], ?_, ?_, ?_⟩
    · have : ioAt (wipeE e1 [i]) i = false := by
        unfold ioAt
        simp only [wipeE]
        rw [List.getElem?_set_self hi]
      unfold gNm
      rw [this]
      simp only [wipeE, List.set_set]
      rfl
    · unfold okWipe
      simp only [List.all_cons, List.all_nil, Bool.and_true]
      rw [List.getElem?_set_self hi]
    · unfold eV
      rw [List.getElem?_set_self hi]
  have lc : ∀ (ys xs : List Str) (e : Env), (xs ++ ys).Nodup → (xs ++ ys).length < 16000000 → (∀ y ∈ ys, y ∈ kn) → wipeE e [i] = wipeE e1 [i] → ∃ e', loopD (gNm i) tYes' (eV i) fv [i] (ys.map .str) (kv xs f) e = some (kv (xs ++ ys) f, e') ∧ wipeE e' [i] = wipeE e1 [i] := by
    intro ys
    induction ys with
    | nil => intro xs e _ _ _ hW; exact ⟨e, by simp [loopD], hW⟩
    | cons y ys ih =>
      intro xs e nd hl hy hW
      have hyx : y ∉ xs := fun z => by
        rw [List.nodup_append] at nd
        exact nd.2.2 y z y List.mem_cons_self rfl
      obtain ⟨k1, k2, k3, k4⟩ := key (.str y)
      obtain ⟨r, h8, h9⟩ := hf y (hy y List.mem_cons_self)
      obtain ⟨e', h6, h7⟩ := ih (xs ++ [y]) (e1.set i (.frz (.str y))) (by simpa using nd) (by simpa using hl) (fun z hz => hy z (List.mem_cons_of_mem _ hz)) k1
      refine ⟨e', ?_, h7⟩
      have hlen : (kv xs f).length < sizeLine := by
        simp only [List.length_append] at hl
        show (List.map _ xs).length < _
        rw [List.length_map, sizeLine_eq]; omega
      simp only [List.map_cons, loopD, hW, k2, tYes', k4, h8, h9, bind, Option.bind, if_true, take_shr]
      have hcond : okWipe (e1.set i (.frz (.str y))) [i] = true ∧ (asKey (.str y)).isSome = true ∧ (kv xs f).length < sizeLine := ⟨k3, rfl, hlen⟩
      rw [if_pos hcond, dput_kv hyx, h6]
      simp
  obtain ⟨e2, h1, h2⟩ := lc kn [] e1 (by simpa using nd) (by simpa using hl) (fun _ h => h) rfl
  have h1' : loopD (gNm i) tYes' (eV i) fv [i] (kn.map .str) [] e1 = some (kv kn f, e2) := h1
  simp only [eDComp, hit, hw, h1', restoreE_wipe h2, hu, bind, Option.bind, if_true, pure]

theorem nSeq_of {f g : NS} {k k1 k2 : List (D × D)} {e e1 e2 : Env} (h1 : f k e = some (k1, e1)) (h2 : g k1 e1 = some (k2, e2)) : nSeq f g k e = some (k2, e2) := by simp only [nSeq, h1, bind, Option.bind]; exact h2
theorem sNest_of {i : Nat} {f0 : Env → Option (List (D × D) × Env)} {f1 : NS} {k0 k1 : List (D × D)} {e e0 e1 : Env} (h0 : f0 e = some (k0, e0)) (h1 : f1 k0 e0 = some (k1, e1)) : sNest i f0 f1 e = some (.nx (e1.set i (.own (.dict k1)))) := by
  simp only [sNest, h0, h1, bind, Option.bind, pure]

/-! ### remove -/
def rmv {α : Type} [DecidableEq α] (a : α) : List α → List α
  | [] => []
  | x :: xs => if x = a then xs else x :: rmv a xs
theorem rmv_dat {α : Type} [DecidableEq α] [Datum α] {a : α} : ∀ {xs : List α}, a ∈ xs → ∃ j, (xs.findIdx? fun y => decide (y = a)) = some j ∧ (xs.map Datum.toD).eraseIdx j = (rmv a xs).map Datum.toD
  | x :: xs, h => by
    by_cases hx : x = a
    · refine ⟨0, by simp [List.findIdx?_cons, hx], by simp [rmv, hx]⟩
    · have h' : a ∈ xs := by
        rcases List.mem_cons.mp h with z | z
        · exact absurd z.symm hx
        · exact z
      obtain ⟨j, h1, h2⟩ := rmv_dat h'
      exact ⟨j + 1, by simp [List.findIdx?_cons, hx, h1], by simp [rmv, hx, h2]⟩
theorem mRemove_dat {α : Type} [DecidableEq α] [Datum α] {a : α} {xs : List α} (h : a ∈ xs) (hd : Datum.depth α ≤ 64 := by decide) : mRemove [Datum.toD a] (xs.map Datum.toD) = some (.shr .none, (rmv a xs).map Datum.toD) := by
  obtain ⟨j, h1, h2⟩ := rmv_dat h
  simp only [mRemove, inOk_dat a xs hd, if_true, place_datum, h1, Option.map, h2]
theorem mRemove_str {a : Str} {xs : List Str} (h : a ∈ xs) : mRemove [.str a] (xs.map .str) = some (.shr .none, (rmv a xs).map .str) := mRemove_dat h
section
variable {α : Type} [DecidableEq α] {a b : α}
theorem rmv_sub : ∀ xs : List α, (rmv a xs).Sublist xs
  | [] => List.Sublist.refl _
  | x :: xs => by
    unfold rmv
    split
    · exact List.sublist_cons_self x xs
    · exact (rmv_sub xs).cons_cons x
theorem rmv_len : ∀ {xs : List α}, a ∈ xs → (rmv a xs).length + 1 = xs.length
  | x :: xs, h => by
    unfold rmv
    split
    · rfl
    · rename_i hx
      have h' : a ∈ xs := by
        rcases List.mem_cons.mp h with z | z
        · exact absurd z.symm hx
        · exact z
      simp only [List.length_cons, rmv_len h']
theorem mem_rmv : ∀ {xs : List α}, xs.Nodup → (b ∈ rmv a xs ↔ b ∈ xs ∧ b ≠ a)
  | [], _ => by simp [rmv]
  | x :: xs, nd => by
    rw [List.nodup_cons] at nd
    unfold rmv
    split
    · rename_i hx
      subst hx
      constructor
      · intro h; exact ⟨List.mem_cons_of_mem _ h, fun z => nd.1 (by rw [← z]; exact h)⟩
      · rintro ⟨h, n⟩
        rcases List.mem_cons.mp h with z | z
        · exact absurd z n
        · exact z
    · rename_i hx
      rw [List.mem_cons, mem_rmv nd.2, List.mem_cons]
      constructor
      · rintro (z | ⟨z, n⟩)
        · exact ⟨.inl z, by rw [z]; exact hx⟩
        · exact ⟨.inr z, n⟩
      · rintro ⟨z | z, n⟩
        · exact .inl z
        · exact .inr ⟨z, n⟩
end

/-! ### least of all -/
section
variable {α : Type} [DecidableEq α] [DatumOrd α]
theorem lt_neg_trans {a b c : α} (h1 : DatumOrd.lt b a = false) (h2 : DatumOrd.lt c b = false) : DatumOrd.lt c a = false := by
  have := dLe_trans (Datum.toD a) (Datum.toD b) (Datum.toD c) (by rw [dLe_dat, h1]; rfl) (by rw [dLe_dat, h2]; rfl)
  rw [dLe_dat] at this
  simpa using this
theorem lt_self (a : α) : DatumOrd.lt a a = false := by rw [← DatumOrd.lt_eq, dataLt_self]
theorem lt_asym {a b : α} (h : DatumOrd.lt a b = true) : DatumOrd.lt b a = false := by
  have := dLe_total (Datum.toD a) (Datum.toD b)
  rw [dLe_dat, dLe_dat, h] at this
  simpa using this
theorem minOf_spec : ∀ (xs : List α) (x : α), minOf x xs ∈ x :: xs ∧ ∀ y ∈ x :: xs, DatumOrd.lt y (minOf x xs) = false
  | [], x => ⟨List.mem_singleton.mpr rfl, fun y hy => by rw [List.mem_singleton.mp hy]; exact lt_self x⟩
  | z :: xs, x => by
    have e : minOf x (z :: xs) = minOf (if DatumOrd.lt z x = true then z else x) xs := rfl
    rw [e]
    obtain ⟨h1, h2⟩ := minOf_spec xs (if DatumOrd.lt z x = true then z else x)
    refine ⟨?_, fun y hy => ?_⟩
    · rcases List.mem_cons.mp h1 with q | q
      · rw [q]; split
        · exact List.mem_cons_of_mem _ List.mem_cons_self
        · exact List.mem_cons_self
      · exact List.mem_cons_of_mem _ (List.mem_cons_of_mem _ q)
    · have h0 := h2 _ List.mem_cons_self
      rcases List.mem_cons.mp hy with q | q
      · subst q
        refine lt_neg_trans h0 ?_
        split
        · rename_i hz; exact lt_asym hz
        · exact lt_self y
      · rcases List.mem_cons.mp q with q | q
        · subst q
          refine lt_neg_trans h0 ?_
          split
          · exact lt_self y
          · rename_i hz; simpa using hz
        · exact h2 y (List.mem_cons_of_mem _ q)
theorem maxOf_spec : ∀ (xs : List α) (x : α), maxOf x xs ∈ x :: xs ∧ ∀ y ∈ x :: xs, DatumOrd.lt (maxOf x xs) y = false
  | [], x => ⟨List.mem_singleton.mpr rfl, fun y hy => by rw [List.mem_singleton.mp hy]; exact lt_self x⟩
  | z :: xs, x => by
    have e : maxOf x (z :: xs) = maxOf (if DatumOrd.lt x z = true then z else x) xs := rfl
    rw [e]
    obtain ⟨h1, h2⟩ := maxOf_spec xs (if DatumOrd.lt x z = true then z else x)
    refine ⟨?_, fun y hy => ?_⟩
    · rcases List.mem_cons.mp h1 with q | q
      · rw [q]; split
        · exact List.mem_cons_of_mem _ List.mem_cons_self
        · exact List.mem_cons_self
      · exact List.mem_cons_of_mem _ (List.mem_cons_of_mem _ q)
    · have h0 := h2 _ List.mem_cons_self
      rcases List.mem_cons.mp hy with q | q
      · subst q
        refine lt_neg_trans ?_ h0
        split
        · rename_i hz; exact lt_asym hz
        · exact lt_self y
      · rcases List.mem_cons.mp q with q | q
        · subst q
          refine lt_neg_trans ?_ h0
          split
          · exact lt_self y
          · rename_i hz; simpa using hz
        · exact h2 y (List.mem_cons_of_mem _ q)
end
abbrev isD (p : Int × Str) : D := .tuple [.int p.1, .str p.2]
theorem opMin_is (x : Int × Str) (xs : List (Int × Str)) : opMin (.list (isD x :: xs.map isD)) = some (.shr (isD (minOf x xs))) := opMin_dat x xs
theorem opMin_int (x : Int) (xs : List Int) : opMin (.list (.int x :: xs.map .int)) = some (.shr (.int (minOf x xs))) := opMin_dat x xs
theorem opMax_int (x : Int) (xs : List Int) : opMax (.list (.int x :: xs.map .int)) = some (.shr (.int (maxOf x xs))) := opMax_dat x xs
theorem lt_is {p q : Int × Str} (h : DatumOrd.lt p q = false) : q.1 ≤ p.1 := by
  have e : DatumOrd.lt p q = if p.1 = q.1 then DatumOrd.lt p.2 q.2 else decide (p.1 < q.1) := rfl
  rw [e] at h
  split at h
  · omega
  · simp only [decide_eq_false_iff_not] at h; omega
end Ev
set_option Elab.async false
set_option linter.all false
set_option maxRecDepth 100000
set_option maxHeartbeats 1000000
/-! Pv3: slices, ranges, enumerate, all, any, sets of texts. -/
namespace Ev
open PySem PySem.Spec PyProof.Rows L2 PySem.W

/-! ### all, any -/
theorem asBools_map : ∀ bs : List Bool, asBools (bs.map .bool) = some bs
  | [] => rfl
  | b :: bs => by simp [asBools, asBools_map bs]
theorem asInts_map : ∀ bs : List Int, asInts (bs.map .int) = some bs
  | [] => rfl
  | b :: bs => by simp [asInts, asInts_map bs]
theorem opAll_map {α : Type} (xs : List α) (p : α → Bool) : opAll (.list ((xs.map p).map .bool)) = some (.shr (.bool (xs.all p))) := by
  simp only [opAll, asBools_map, Option.map]
  congr 3
  induction xs with
  | nil => rfl
  | cons x xs ih => simp
theorem opAny_map {α : Type} (xs : List α) (p : α → Bool) : opAny (.list ((xs.map p).map .bool)) = some (.shr (.bool (xs.any p))) := by
  simp only [opAny, asBools_map, Option.map]
  congr 3
  induction xs with
  | nil => rfl
  | cons x xs ih => simp
theorem opSum_map (ns : List Int) : opSum (.list (ns.map .int)) = some (.shr (.int ns.sum)) := by simp only [opSum, asInts_map, Option.map]

/-! ### slices -/
theorem cut_from {α : Type} (f : α → D) (xs : List α) (k : Nat) : cutD (xs.map f) (some (k : Int)) none = (xs.drop k).map f := by
  unfold cutD
  rw [HT.sIx_nat, HT.sIx_none, List.length_map]
  by_cases h : k ≤ xs.length
  · rw [Nat.min_eq_left h, List.take_of_length_le (by rw [List.length_drop, List.length_map]; omega), List.map_drop]
  · have h' : xs.length ≤ k := by omega
    rw [Nat.min_eq_right h', List.drop_of_length_le h', List.drop_of_length_le (by rw [List.length_map]; omega)]
    simp
theorem cut_to {α : Type} (f : α → D) (xs : List α) (k : Nat) : cutD (xs.map f) none (some (k : Int)) = (xs.take k).map f := by
  unfold cutD
  rw [HT.sIx_nat, HT.sIx_none, List.length_map]
  by_cases h : k ≤ xs.length
  · rw [Nat.min_eq_left h]; simp
  · have h' : xs.length ≤ k := by omega
    rw [Nat.min_eq_right h', List.take_of_length_le h']
    simp [List.take_of_length_le]
theorem cut_all {α : Type} (f : α → D) (xs : List α) : cutD (xs.map f) none none = xs.map f := by
  unfold cutD
  rw [HT.sIx_none, HT.sIx_none]; simp [List.take_of_length_le]

/-! ### items -/
theorem atI_map {α : Type} (f : α → D) {xs : List α} {i : Nat} {x : α} (h : xs[i]? = some x) : L2.atI (xs.map f) (i : Int) = some (f x) := L2.atI_nat (by rw [List.getElem?_map, h]; rfl)
theorem atI_map0 {α : Type} (f : α → D) {xs : List α} {i : Nat} {x : α} (h : xs[i]? = some x) : L2.atI (xs.map f) (0 + (i : Int)) = some (f x) := by rw [Int.zero_add]; exact atI_map f h
/-- enumerate, typed -/
theorem enumD_map {α : Type} (f : α → D) (xs : List α) : enumD (xs.map f) = xs.zipIdx.map fun p => .tuple [.int (p.2 : Nat), f p.1] := by
  unfold enumD
  refine List.ext_getElem? fun i => ?_
  rw [List.getElem?_zipWith, List.getElem?_map, List.getElem?_map, List.getElem?_zipIdx, List.length_map]
  by_cases hi : i < xs.length
  · rw [List.getElem?_range hi, List.getElem?_eq_getElem hi]
    simp
  · rw [List.getElem?_eq_none (l := xs) (by omega)]
    cases (List.range xs.length)[i]? <;> rfl

/-! ### comprehensions with two names -/
theorem eComp_tp2 {α β : Type} {it : I} {t : T} {f : E} {i j : Nat} {e e1 e3 : Env} {l : Option Nat} (xs : List α) (enc1 enc2 : α → D) (enc' : β → D) (p : α → Bool) (g : α → β) (hij : i ≠ j) (hit : it e = some (xs.map (fun x => .tuple [enc1 x, enc2 x]), l, e1)) (hw : okWipe e1 [i, j] = true) (hu : unlockE l e1 = some e3)
    (ht : ∀ x ∈ xs, t ((e1.set i (.frz (enc1 x))).set j (.frz (enc2 x))) = some (p x, (e1.set i (.frz (enc1 x))).set j (.frz (enc2 x)))) (hf : ∀ x ∈ xs, p x = true → ∃ r, f ((e1.set i (.frz (enc1 x))).set j (.frz (enc2 x))) = some (r, (e1.set i (.frz (enc1 x))).set j (.frz (enc2 x))) ∧ take r ((e1.set i (.frz (enc1 x))).set j (.frz (enc2 x))) = some (enc' (g x), (e1.set i (.frz (enc1 x))).set j (.frz (enc2 x)))) :
    eComp it (gTp 2 (gsCons (gNm i) (gsCons (gNm j) gsNil))) t f [i, j] e = some (.new (.list (((xs.filter p).map g).map enc')), e3) := by
  have hi : i < e1.length := by
    rcases okWipe_at hw (List.mem_cons_self) with z | ⟨d, z⟩ <;> exact (List.getElem?_eq_some_iff.mp z).1
  have hj : j < e1.length := by
    rcases okWipe_at hw (List.mem_cons_of_mem _ List.mem_cons_self) with z | ⟨d, z⟩ <;> exact (List.getElem?_eq_some_iff.mp z).1
  have wp : ∀ a b : Slot, wipeE ((e1.set i a).set j b) [i, j] = wipeE e1 [i, j] := fun a b => by
    refine List.ext_getElem? fun k => ?_
    simp only [wipeE, List.getElem?_set]
    simp only [List.length_set]
    by_cases h1 : i = k
    · simp [h1]
    · by_cases h2 : j = k
      · simp [h1, h2]
      · simp [h1, h2]
  have key : ∀ x : α, wipeE ((e1.set i (.frz (enc1 x))).set j (.frz (enc2 x))) [i, j] = wipeE e1 [i, j] ∧ gTp 2 (gsCons (gNm i) (gsCons (gNm j) gsNil)) (.tuple [enc1 x, enc2 x]) (wipeE e1 [i, j]) = some ((e1.set i (.frz (enc1 x))).set j (.frz (enc2 x))) ∧ okWipe ((e1.set i (.frz (enc1 x))).set j (.frz (enc2 x))) [i, j] = true := fun x => by
    refine ⟨wp _ _, ?_, ?_⟩
    · have a1 : ioAt (wipeE e1 [i, j]) i = false := by
        unfold ioAt
        simp only [wipeE]
        rw [List.getElem?_set_self (by rw [List.length_set]; exact hi)]
      have a2 : ioAt ((wipeE e1 [i, j]).set i (.frz (enc1 x))) j = false := by
        unfold ioAt
        simp only [wipeE]
        rw [List.getElem?_set_ne hij, List.getElem?_set_ne hij, List.getElem?_set_self hj]
      have a3 : ((wipeE e1 [i, j]).set i (.frz (enc1 x))).set j (.frz (enc2 x)) = (e1.set i (.frz (enc1 x))).set j (.frz (enc2 x)) := by
        refine List.ext_getElem? fun k => ?_
        simp only [wipeE, List.getElem?_set, List.length_set]
        by_cases h1 : i = k
        · simp [h1]
        · by_cases h2 : j = k
          · simp [h1, h2]
          · simp [h1, h2]
      simp only [gTp, gsCons, gNm, gsNil, a1, a2, List.length_cons, List.length_nil, if_true, bind, Option.bind, Bool.false_eq_true, if_false, a3]
    · unfold okWipe
      simp only [List.all_cons, List.all_nil, Bool.and_true]
      rw [List.getElem?_set_ne (Ne.symm hij), List.getElem?_set_self hi, List.getElem?_set_self (by rw [List.length_set]; exact hj)]
      rfl
  have lc : ∀ {ys : List α} {e : Env}, (∀ y ∈ ys, y ∈ xs) → wipeE e [i, j] = wipeE e1 [i, j] → ∃ e', loopC (gTp 2 (gsCons (gNm i) (gsCons (gNm j) gsNil))) t f [i, j] (ys.map fun x => .tuple [enc1 x, enc2 x]) e = some (((ys.filter p).map g).map enc', e') ∧ wipeE e' [i, j] = wipeE e1 [i, j] := by
    intro ys
    induction ys with
    | nil => intro e _ hW; exact ⟨e, rfl, hW⟩
    | cons y ys ih =>
      intro e hy hW
      have hyx := hy y List.mem_cons_self
      obtain ⟨k1, k2, k3⟩ := key y
      have h2 := ht y hyx
      obtain ⟨e', h6, h7⟩ := ih (e := (e1.set i (.frz (enc1 y))).set j (.frz (enc2 y))) (fun z hz => hy z (List.mem_cons_of_mem _ hz)) k1
      refine ⟨e', ?_, h7⟩
      cases hp : p y with
      | true =>
        obtain ⟨r, h8, h9⟩ := hf y hyx hp
        rw [hp] at h2
        simp only [List.map_cons, loopC, hW, k2, h2, h8, h9, k3, h6, bind, Option.bind, if_true, pure, List.filter_cons_of_pos hp]
      | false =>
        rw [hp] at h2
        simp only [List.map_cons, loopC, hW, k2, h2, k3, h6, bind, Option.bind, List.filter_cons_of_neg (show ¬ p y = true by rw [hp]; exact Bool.false_ne_true)]
        rfl
  obtain ⟨e2, h1, h2⟩ := lc (ys := xs) (e := e1) (fun _ h => h) rfl
  simp only [eComp, hit, hw, h1, restoreE_wipe h2, hu, bind, Option.bind, if_true, pure]

/-! ### sets of texts -/
theorem asKeys_str : ∀ xs : List Str, asKeys (xs.map .str) = some (xs.map Sum.inr)
  | [] => rfl
  | x :: xs => by simp [asKeys, asKey, asKeys_str xs]
theorem mem_ddK_iff (k : Key) : ∀ xs : List Key, k ∈ ddK xs ↔ k ∈ xs := by
  intro xs
  have go : ∀ (n : Nat) (xs : List Key), xs.length = n → (k ∈ ddK xs ↔ k ∈ xs) := by
    intro n
    induction n with
    | zero => intro xs h; rw [List.length_eq_zero_iff.mp h]; simp [ddK]
    | succ n ih =>
      intro xs h
      have hne : xs ≠ [] := fun z => by rw [z] at h; cases h
      rw [← List.dropLast_concat_getLast hne, ddK_snoc]
      have ih' := ih xs.dropLast (by rw [List.length_dropLast]; omega)
      split
      · rename_i hm
        rw [List.mem_append, ih', List.mem_singleton]
        constructor
        · exact .inl
        · rintro (z | z)
          · exact z
          · subst z; exact ih'.mp hm
      · rw [List.mem_append, List.mem_append, ih']
  exact go xs.length xs rfl
theorem ddK_len_iff : ∀ xs : List Key, (ddK xs).length = xs.length ↔ xs.Nodup := by
  intro xs
  have go : ∀ (n : Nat) (xs : List Key), xs.length = n → ((ddK xs).length = xs.length ↔ xs.Nodup) := by
    intro n
    induction n with
    | zero => intro xs h; rw [List.length_eq_zero_iff.mp h]; simp [ddK]
    | succ n ih =>
      intro xs h
      have hne : xs ≠ [] := fun z => by rw [z] at h; cases h
      rw [← List.dropLast_concat_getLast hne, ddK_snoc]
      have ih' := ih xs.dropLast (by rw [List.length_dropLast]; omega)
      have hle := ddK_le xs.dropLast
      rw [List.nodup_append]
      split
      · rename_i hm
        rw [mem_ddK_iff] at hm
        simp only [List.length_append, List.length_cons, List.length_nil]
        constructor
        · intro q; omega
        · rintro ⟨_, _, q⟩
          exact absurd rfl (q _ hm _ List.mem_cons_self)
      · rename_i hm
        rw [mem_ddK_iff] at hm
        simp only [List.length_append, List.length_cons, List.length_nil]
        constructor
        · intro q
          refine ⟨ih'.mp (by omega), by simp, fun a ha b hb z => ?_⟩
          rw [List.mem_singleton] at hb
          subst hb; subst z
          exact hm ha
        · rintro ⟨q, _, _⟩
          have := ih'.mpr q; omega
  exact go xs.length xs rfl
theorem opLenSet_str {xs : List Str} (h : xs.length < 4000) : opLenSet (sts xs) = some (.shr (.int (ddK (xs.map Sum.inr)).length)) := by
  simp only [opLenSet, asKeys_str, List.length_map, h, if_true]
theorem ddK_str (xs : List Str) : (ddK (xs.map Sum.inr)).length = xs.length ↔ xs.Nodup := by
  have := ddK_len_iff (xs.map Sum.inr)
  rw [List.length_map] at this
  rw [this]
  constructor
  · intro h; exact List.Pairwise.of_map _ (fun a b n z => n (by rw [z])) h
  · intro h; exact List.Pairwise.map _ (fun a b n z => n (Sum.inr.inj z)) h
end Ev
set_option Elab.async false
set_option linter.all false
set_option maxRecDepth 100000
set_option maxHeartbeats 1000000
/-! Pv4: isinstance. -/
namespace Ev
open PySem PySem.Spec PyProof.Rows L2 PySem.W
theorem isaT : (opIsa "int" .none = some (.shr (.bool false))) ∧ (opIsa "bool" .none = some (.shr (.bool false))) ∧ (opIsa "str" .none = some (.shr (.bool false))) ∧ (opIsa "dict" .none = some (.shr (.bool false))) ∧ (opIsa "tuple" .none = some (.shr (.bool false))) ∧ (opIsa "list" .none = some (.shr (.bool false))) ∧ (∀ b : Bool, opIsa "int" (.bool b) = some (.shr (.bool true))) ∧ (∀ b : Bool, opIsa "bool" (.bool b) = some (.shr (.bool true))) ∧ (∀ b : Bool, opIsa "str" (.bool b) = some (.shr (.bool false))) ∧ (∀ b : Bool, opIsa "dict" (.bool b) = some (.shr (.bool false))) ∧ (∀ b : Bool, opIsa "tuple" (.bool b) = some (.shr (.bool false))) ∧ (∀ b : Bool, opIsa "list" (.bool b) = some (.shr (.bool false))) ∧ (∀ i : Int, opIsa "int" (.int i) = some (.shr (.bool true))) ∧ (∀ i : Int, opIsa "bool" (.int i) = some (.shr (.bool false))) ∧ (∀ i : Int, opIsa "str" (.int i) = some (.shr (.bool false))) ∧ (∀ i : Int, opIsa "dict" (.int i) = some (.shr (.bool false))) ∧ (∀ i : Int, opIsa "tuple" (.int i) = some (.shr (.bool false))) ∧ (∀ i : Int, opIsa "list" (.int i) = some (.shr (.bool false))) ∧ (∀ x : Str, opIsa "int" (.str x) = some (.shr (.bool false))) ∧ (∀ x : Str, opIsa "bool" (.str x) = some (.shr (.bool false))) ∧ (∀ x : Str, opIsa "str" (.str x) = some (.shr (.bool true))) ∧ (∀ x : Str, opIsa "dict" (.str x) = some (.shr (.bool false))) ∧ (∀ x : Str, opIsa "tuple" (.str x) = some (.shr (.bool false))) ∧ (∀ x : Str, opIsa "list" (.str x) = some (.shr (.bool false))) ∧ (∀ ds : List D, opIsa "int" (.list ds) = some (.shr (.bool false))) ∧ (∀ ds : List D, opIsa "bool" (.list ds) = some (.shr (.bool false))) ∧ (∀ ds : List D, opIsa "str" (.list ds) = some (.shr (.bool false))) ∧ (∀ ds : List D, opIsa "dict" (.list ds) = some (.shr (.bool false))) ∧ (∀ ds : List D, opIsa "tuple" (.list ds) = some (.shr (.bool false))) ∧ (∀ ds : List D, opIsa "list" (.list ds) = some (.shr (.bool true))) ∧ (∀ ds : List D, opIsa "int" (.tuple ds) = some (.shr (.bool false))) ∧ (∀ ds : List D, opIsa "bool" (.tuple ds) = some (.shr (.bool false))) ∧ (∀ ds : List D, opIsa "str" (.tuple ds) = some (.shr (.bool false))) ∧ (∀ ds : List D, opIsa "dict" (.tuple ds) = some (.shr (.bool false))) ∧ (∀ ds : List D, opIsa "tuple" (.tuple ds) = some (.shr (.bool true))) ∧ (∀ ds : List D, opIsa "list" (.tuple ds) = some (.shr (.bool false))) := ⟨by kernel_rfl, by kernel_rfl, by kernel_rfl, by kernel_rfl, by kernel_rfl, by kernel_rfl, fun _ => by kernel_rfl, fun _ => by kernel_rfl, fun _ => by kernel_rfl, fun _ => by kernel_rfl, fun _ => by kernel_rfl, fun _ => by kernel_rfl, fun _ => by kernel_rfl, fun _ => by kernel_rfl, fun _ => by kernel_rfl, fun _ => by kernel_rfl, fun _ => by kernel_rfl, fun _ => by kernel_rfl, fun _ => by kernel_rfl, fun _ => by kernel_rfl, fun _ => by kernel_rfl, fun _ => by kernel_rfl, fun _ => by kernel_rfl, fun _ => by kernel_rfl, fun _ => by kernel_rfl, fun _ => by kernel_rfl, fun _ => by kernel_rfl, fun _ => by kernel_rfl, fun _ => by kernel_rfl, fun _ => by kernel_rfl, fun _ => by kernel_rfl, fun _ => by kernel_rfl, fun _ => by kernel_rfl, fun _ => by kernel_rfl, fun _ => by kernel_rfl, fun _ => by kernel_rfl⟩
theorem kitDict : kitB "dict" "int" = some false ∧ kitB "dict" "bool" = some false ∧ kitB "dict" "str" = some false ∧ kitB "dict" "dict" = some true ∧ kitB "dict" "tuple" = some false ∧ kitB "dict" "list" = some false := ⟨by kernel_rfl, by kernel_rfl, by kernel_rfl, by kernel_rfl, by kernel_rfl, by kernel_rfl⟩
theorem isaD (kn : List Str) (f : Str → D) : opIsa "int" (.dict (kv kn f)) = some (.shr (.bool false)) ∧ opIsa "bool" (.dict (kv kn f)) = some (.shr (.bool false)) ∧ opIsa "str" (.dict (kv kn f)) = some (.shr (.bool false)) ∧ opIsa "dict" (.dict (kv kn f)) = some (.shr (.bool true)) ∧ opIsa "tuple" (.dict (kv kn f)) = some (.shr (.bool false)) ∧ opIsa "list" (.dict (kv kn f)) = some (.shr (.bool false)) := by
  have := kindOf_kv kn f
  simp [opIsa, tyName, this, kitDict]
section
variable {α : Type} [DecidableEq α] [DatumOrd α]
theorem srt_of {xs : List α} (h : xs.Pairwise fun a b => DatumOrd.lt b a = false) : srt xs = xs := by
  unfold srt
  exact List.mergeSort_of_pairwise (h.imp fun z => by rw [z]; rfl)
theorem srt_srt (xs : List α) : srt (srt xs) = srt xs := srt_of (srt_le xs)
end
theorem str_antisymm {a b : Str} (h1 : DatumOrd.lt b a = false) (h2 : DatumOrd.lt a b = false) : a = b := by
  have e1 : DatumOrd.lt b a = decide (b.cps.toList < a.cps.toList) := rfl
  have e2 : DatumOrd.lt a b = decide (a.cps.toList < b.cps.toList) := rfl
  rw [e1] at h1
  rw [e2] at h2
  have := List.le_antisymm (of_decide_eq_false h1) (of_decide_eq_false h2)
  cases a with | mk a => cases b with | mk b =>
  congr 1
  exact Array.ext' (by simpa using this)
theorem srt_str_perm {xs ys : List Str} (h : xs.Perm ys) : srt xs = srt ys :=
  List.Perm.eq_of_pairwise (le := fun a b => DatumOrd.lt b a = false) (fun a b _ _ h1 h2 => str_antisymm h1 h2) (srt_le xs) (srt_le ys) (((srt_perm xs).trans h).trans (srt_perm ys).symm)
/-! ### sublists of a list without repeats -/
section
variable {α : Type} [DecidableEq α]
theorem sub_filter {S L : List α} (h : S.Sublist L) (nd : L.Nodup) : L.filter (fun x => decide (x ∈ S)) = S := by
  induction h with
  | slnil => rfl
  | @cons l₁ l₂ a h ih =>
    rw [List.nodup_cons] at nd
    have : a ∉ l₁ := fun z => nd.1 (h.subset z)
    rw [List.filter_cons_of_neg (by simpa using this)]
    exact ih nd.2
  | @cons_cons l₁ l₂ a h ih =>
    rw [List.nodup_cons] at nd
    rw [List.filter_cons_of_pos (by simp)]
    congr 1
    have e : l₂.filter (fun x => decide (x ∈ a :: l₁)) = l₂.filter (fun x => decide (x ∈ l₁)) := List.filter_congr fun x hx => by
      have : x ≠ a := fun z => nd.1 (by rw [← z]; exact hx)
      simp [this]
    rw [e]; exact ih nd.2
theorem filter_back {p q : α → Bool} : ∀ {L : List α}, (∀ x ∈ L, p x = true → q x = true) → (L.filter q).length ≤ (L.filter p).length → ∀ x ∈ L, q x = true → p x = true
  | [], _, _, _, hx, _ => by cases hx
  | a :: L, h, hl, x, hx, hq => by
    have hm : (L.filter p).length ≤ (L.filter q).length := by
      rw [← List.countP_eq_length_filter, ← List.countP_eq_length_filter]
      exact List.countP_mono_left fun y hy hp => h y (List.mem_cons_of_mem _ hy) hp
    by_cases hpa : p a = true
    · have hqa := h a List.mem_cons_self hpa
      rw [List.filter_cons_of_pos hpa, List.filter_cons_of_pos hqa] at hl
      simp only [List.length_cons] at hl
      rcases List.mem_cons.mp hx with z | z
      · rw [z]; exact hpa
      · exact filter_back (fun y hy => h y (List.mem_cons_of_mem _ hy)) (by omega) x z hq
    · by_cases hqa : q a = true
      · rw [List.filter_cons_of_neg hpa, List.filter_cons_of_pos hqa] at hl
        simp only [List.length_cons] at hl
        omega
      · rw [List.filter_cons_of_neg hpa, List.filter_cons_of_neg hqa] at hl
        rcases List.mem_cons.mp hx with z | z
        · rw [z] at hq; exact absurd hq hqa
        · exact filter_back (fun y hy => h y (List.mem_cons_of_mem _ hy)) hl x z hq
/-- of two sublists the less one, if it is as long, is the other -/
theorem sub_eq {S T L : List α} (hS : S.Sublist L) (hT : T.Sublist L) (nd : L.Nodup) (h : ∀ x ∈ S, x ∈ T) (hl : T.length ≤ S.length) : S = T := by
  have eS := sub_filter hS nd
  have eT := sub_filter hT nd
  rw [← eS, ← eT]
  refine List.filter_congr fun x hx => ?_
  have := filter_back (p := fun x => decide (x ∈ S)) (q := fun x => decide (x ∈ T)) (L := L) (fun y _ hy => by simp only [decide_eq_true_eq] at hy ⊢; exact h y hy) (by rw [eS, eT]; exact hl) x hx
  simp only [decide_eq_true_eq] at this
  by_cases hxS : x ∈ S
  · simp [hxS, h x hxS]
  · have : x ∉ T := fun z => hxS (this z)
    simp [hxS, this]
end
/-! ### tests that change nothing -/
section
variable {s t : T} {e : Env} {a b : Bool}
theorem tOr_eq (h1 : s e = some (a, e)) (h2 : t e = some (b, e)) : tOr' s t e = some (a || b, e) := by
  cases a <;> simp [tOr', h1, h2]
theorem tAnd_eq (h1 : s e = some (a, e)) (h2 : t e = some (b, e)) : tAnd' s t e = some (a && b, e) := by
  cases a <;> simp [tAnd', h1, h2]
theorem tNot_eq (h1 : s e = some (a, e)) : tNot' s e = some (!a, e) := by simp [tNot', h1]
theorem asT_eq {f : E} (h : f e = some (.shr (.bool a), e)) : asT f e = some (a, e) := by simp [asT, h]
theorem tTru_eq {f : E} {r : Rs} {d : D} (h : f e = some (r, e)) (hl : look r e = some d) (hd : dTru d = some a) : tTru f e = some (a, e) := by simp [tTru, h, hl, hd]
end
/-- a slot that may be stored anew -/
def Slot.fr : Slot → Bool
  | .io _ => false
  | .lk _ => false
  | _ => true
theorem ioAt_fr {e : Env} {i : Nat} {s : Slot} (h : e[i]? = some s) (hs : s.fr = true) : ioAt e i = false := by
  unfold ioAt
  rw [h]
  cases s <;> first | rfl | cases hs
theorem fr_osl (x : Option D) : (osl x).fr = true := by cases x <;> rfl
end Ev
set_option Elab.async false
set_option linter.all false
set_option maxRecDepth 100000
set_option maxHeartbeats 1000000
/-! Pv5: ranges, places, nets. -/
namespace Ev
open PySem PySem.Spec PyProof.Rows L2 PySem.W
theorem range_itR {n : Nat} {f : E} {e e1 : Env} {r : Rs} (h : f e = some (r, e1)) (hr : look r e1 = some (.int (n : Nat))) (hn : n ≤ 16777216) : iR1 f e = some ((List.range n).map fun i => .int (0 + (i : Nat)), none, e1) := by
  have h1 : (-(2 ^ 62) : Int) ≤ (n : Int) ∧ (n : Int) ≤ 16777216 := by omega
  simp only [iR1, h, hr, bind, Option.bind]
  rw [if_pos h1]
  simp
theorem range_itR2 {a n : Nat} {f g : E} {e e1 e2 : Env} {r r' : Rs} (h : f e = some (r, e1)) (h' : g e1 = some (r', e2)) (hr : look (settle r) e2 = some (.int (a : Nat))) (hr' : look r' e2 = some (.int (n : Int))) (hn : n ≤ 16777216) (ha : a ≤ 16777216) : iR2 f g e = some ((List.range (n - a)).map fun i => .int ((a : Int) + (i : Nat)), none, e2) := by
  have h1 : (-(2 ^ 62) : Int) ≤ (a : Int) ∧ (a : Int) < 2 ^ 62 ∧ (-(2 ^ 62) : Int) ≤ (n : Int) ∧ (n : Int) < 2 ^ 62 ∧ (n : Int) - (a : Int) ≤ 16777216 := by omega
  have h2 : ((n : Int) - (a : Int)).toNat = n - a := by omega
  simp only [iR2, h, h', hr, hr', bind, Option.bind]
  rw [if_pos h1, h2]
/-- who is beside whom -/
def Adj (ld : List (Str × Str)) (x y : Str) : Prop := (x, y) ∈ ld ∨ (y, x) ∈ ld
instance (ld : List (Str × Str)) (x y : Str) : Decidable (Adj ld x y) := by unfold Adj; infer_instance
theorem Adj.symm {ld : List (Str × Str)} {x y : Str} (h : Adj ld x y) : Adj ld y x := Or.symm h
theorem mem_nbStep {nb : Str → List Str} {p : Str × Str} {j x : Str} : x ∈ nbStep nb p j ↔ x ∈ nb j ∨ (j = p.1 ∧ x = p.2) ∨ (j = p.2 ∧ x = p.1) := by
  obtain ⟨a, b⟩ := p
  unfold nbStep
  by_cases h1 : j = a
  · by_cases h2 : j = b
    · subst h1; subst h2; simp
    · subst h1
      have : ¬ b = j := fun h => h2 h.symm
      simp [h2, this]
  · by_cases h2 : j = b
    · subst h2
      have : ¬ a = j := fun h => h1 h.symm
      simp [h1, this]
    · simp [h1, h2]
theorem mem_nbs {ld : List (Str × Str)} {j x : Str} : x ∈ nbs ld j ↔ Adj ld j x := by
  have go : ∀ (ld : List (Str × Str)) (nb : Str → List Str), x ∈ ld.foldl nbStep nb j ↔ x ∈ nb j ∨ Adj ld j x := by
    intro ld
    induction ld with
    | nil => intro nb; simp [Adj]
    | cons p ld ih =>
      intro nb
      rw [List.foldl_cons, ih, mem_nbStep]
      unfold Adj
      simp only [List.mem_cons]
      constructor
      · rintro ((h | ⟨h1, h2⟩ | ⟨h1, h2⟩) | h | h)
        · exact .inl h
        · subst h1; subst h2; exact .inr (.inl (.inl rfl))
        · subst h1; subst h2; exact .inr (.inr (.inl rfl))
        · exact .inr (.inl (.inr h))
        · exact .inr (.inr (.inr h))
      · rintro (h | (h | h) | h | h)
        · exact .inl (.inl h)
        · exact .inl (.inr (.inl (by rw [← h]; exact ⟨rfl, rfl⟩)))
        · exact .inr (.inl h)
        · exact .inl (.inr (.inr (by rw [← h]; exact ⟨rfl, rfl⟩)))
        · exact .inr (.inr h)
  have := go ld fun _ => []
  simpa [nbs] using this
theorem mem_snbs {ld : List (Str × Str)} {j x : Str} : x ∈ srt (nbs ld j) ↔ Adj ld j x := (srt_perm _).mem_iff.trans mem_nbs
end Ev
set_option Elab.async false
set_option linter.all false
set_option maxRecDepth 100000
set_option maxHeartbeats 1000000
/-! Pv6: index, comprehensions of two fors. -/
namespace Ev
open PySem PySem.Spec PyProof.Rows L2 PySem.W
theorem canLay_strs : ∀ xs : List Str, (∀ x ∈ xs, PyData.strOk x = true) → PyData.canLayAll0 (xs.map PyData.str) = true
  | [], _ => rfl
  | x :: xs, h => by
    have := canLay_strs xs fun y hy => h y (List.mem_cons_of_mem _ hy)
    simp only [List.map_cons, PyData.canLayAll0, this, PyData.canLay0, Bool.and_true]
    exact h x List.mem_cons_self
theorem depth_strs : ∀ xs : List Str, PyData.depthAll (xs.map PyData.str) = 0
  | [] => rfl
  | x :: xs => by
    have := depth_strs xs
    simp only [List.map_cons, PyData.depthAll, this, PyData.depth]; rfl
theorem place_ok (xs : List Str) (x : Str) (h : ∀ x ∈ xs, PyData.strOk x = true) (hx : x ∈ xs) : (SeqAt.shaped (sts xs) && SeqAt.shaped (.str x) && inOk (.str x) (xs.map PyData.str)) = true := by
  have h1 : SeqAt.shaped (sts xs) = true := by
    unfold SeqAt.shaped
    simp only [sts, PyData.canLay0, canLay_strs xs h, PyData.depth, depth_strs]; rfl
  have h2 : SeqAt.shaped (.str x) = true := by
    unfold SeqAt.shaped
    simp only [PyData.canLay0, h x hx, PyData.depth]; rfl
  have h3 : inOk (.str x) (xs.map PyData.str) = true := inOk_dat x xs
  rw [h1, h2, h3]; rfl
theorem place_str : ∀ {xs : List Str} {x : Str}, x ∈ xs → SeqAt.dataPlace (xs.map PyData.str) (.str x) = some (xs.idxOf x)
  | y :: xs, x, h => by
    have ih := @place_str xs x
    unfold SeqAt.dataPlace at ih ⊢
    rw [List.map_cons, List.findIdx?_cons, List.idxOf_cons, eqv_str]
    by_cases e : y = x
    · subst e; simp
    · have hx : x ∈ xs := by
        rcases List.mem_cons.mp h with z | z
        · exact absurd z.symm e
        · exact z
      rw [ih hx]
      simp only [beq_false_of_ne e, cond_false, decide_eq_false e]
      simp
theorem eIdx_str {fo fx : E} {e : Env} {ro rx : Rs} {xs : List Str} {x : Str} (ho : fo e = some (ro, e)) (hl : look (settle ro) e = some (sts xs)) (hx : fx e = some (rx, e)) (hxl : look rx e = some (.str x)) (hm : x ∈ xs) (hok : ∀ x ∈ xs, PyData.strOk x = true) : eIdx fo fx e = some (.shr (.int (xs.idxOf x : Nat)), e) := by
  simp only [eIdx, ho, hl, hx, hxl, bind, Option.bind]
  rw [if_pos (place_ok xs x hok hm), place_str hm]
  rfl
section
variable {α β : Type} {it it1 : I} {tg tg1 : TgE} {t t1 : T} {f : E} {i j : Nat} {e e1 e3 : Env} {l : Option Nat}
theorem eComp2_nm (xs : List α) (enc : α → D) (ys : α → List β) (enc' : β → D) (p : α → β → Bool) (g : α → β → D) (Ex : α → Env) (Exy : α → β → Env)
    (hit : it e = some (xs.map enc, l, e1)) (hw : okWipe e1 [i, j] = true) (hu : unlockE l (restoreE e1 (wipeE e1 [i, j]) [i, j]) = some e3) (hl : (xs.flatMap fun x => ((ys x).filter (p x)).map (g x)).length ≤ sizeLine)
    (hx : ∀ x ∈ xs, tg (enc x) (wipeE e1 [i, j]) = some (Ex x) ∧ t (Ex x) = some (true, Ex x) ∧ it1 (Ex x) = some ((ys x).map enc', none, Ex x) ∧ okWipe (Ex x) [i, j] = true ∧ wipeE (Ex x) [i, j] = wipeE e1 [i, j] ∧ wipeE (Ex x) [j] = Ex x)
    (hy : ∀ x ∈ xs, ∀ y ∈ ys x, tg1 (enc' y) (Ex x) = some (Exy x y) ∧ t1 (Exy x y) = some (p x y, Exy x y) ∧ okWipe (Exy x y) [i, j] = true ∧ wipeE (Exy x y) [j] = Ex x ∧ (p x y = true → ∃ r, f (Exy x y) = some (r, Exy x y) ∧ take r (Exy x y) = some (g x y, Exy x y))) :
    eComp2 it tg t it1 tg1 t1 f [i, j] [j] e = some (.new (.list (xs.flatMap fun x => ((ys x).filter (p x)).map (g x))), e3) := by
  have hwij : ∀ e : Env, wipeE e [i, j] = (wipeE e [j]).set i .emp := fun e => rfl
  have inner : ∀ x ∈ xs, ∀ zs : List β, zs ⊆ ys x → ∀ e, wipeE e [j] = Ex x → okWipe e [i, j] = true → ∃ e', loopI tg1 t1 f [j] [i, j] (zs.map enc') e = some ((zs.filter (p x)).map (g x), e') ∧ wipeE e' [j] = Ex x := by
    intro x hxm zs
    induction zs with
    | nil => exact fun _ e he _ => ⟨e, rfl, he⟩
    | cons z zs ih =>
      intro hs e he hok
      obtain ⟨h1, h2, h3, h4, h5⟩ := hy x hxm z (hs List.mem_cons_self)
      obtain ⟨e', h6, h7⟩ := ih (fun a h => hs (List.mem_cons_of_mem _ h)) (Exy x z) h4 h3
      refine ⟨e', ?_, h7⟩
      cases hp : p x z with
      | true =>
        obtain ⟨r, h8, h9⟩ := h5 hp
        simp only [List.map_cons, loopI, he, h1, h2, hp, bind, Option.bind, if_true, h8, h9, h3, h6, pure, List.filter_cons_of_pos]
      | false =>
        rw [List.filter_cons_of_neg (by simp [hp])]
        simp only [List.map_cons, loopI, he, h1, h2, hp, bind, Option.bind, h3, h6, if_true]
        rfl
  have outer : ∀ zs : List α, zs ⊆ xs → ∀ e, wipeE e [i, j] = wipeE e1 [i, j] → ∃ e', loopC2 tg t it1 tg1 t1 f [i, j] [j] (zs.map enc) e = some (zs.flatMap fun x => ((ys x).filter (p x)).map (g x), e') ∧ wipeE e' [i, j] = wipeE e1 [i, j] := by
    intro zs
    induction zs with
    | nil => exact fun _ e he => ⟨e, rfl, he⟩
    | cons z zs ih =>
      intro hs e he
      have hz := hs List.mem_cons_self
      obtain ⟨h1, h2, h3, h4, h5, h6⟩ := hx z hz
      obtain ⟨e', h7, h8⟩ := inner z hz (ys z) (fun a h => h) (Ex z) h6 h4
      have h9 : wipeE e' [i, j] = wipeE e1 [i, j] := by rw [hwij, h8, ← h5, hwij, h6]
      obtain ⟨e'', h10, h11⟩ := ih (fun a h => hs (List.mem_cons_of_mem _ h)) e' h9
      refine ⟨e'', ?_, h11⟩
      simp only [List.map_cons, loopC2, he, h1, h2, h3, h4, bind, Option.bind, if_true, and_self, h7, h10, pure, List.flatMap_cons]
  obtain ⟨e2, h1, h2⟩ := outer xs (fun a h => h) e1 rfl
  simp only [eComp2, hit, hw, h1, h2, hu, bind, Option.bind, if_true, hl, pure]
end
theorem cut_init {α : Type} (f : α → D) (xs : List α) (x : α) : cutD ((xs ++ [x]).map f) none (some (-1)) = xs.map f := by
  have h1 : ((xs ++ [x]).map f).length = xs.length + 1 := by simp
  have h2 : HT.sIx (xs.length + 1) (xs.length + 1) (some (-1)) = xs.length := by
    unfold HT.sIx
    simp
    try omega
  unfold cutD
  rw [h1, h2, HT.sIx_none]
  simp
theorem flatMap_len {α β : Type} (xs : List α) (f : α → List β) (m : Nat) (h : ∀ x ∈ xs, (f x).length ≤ m) : (xs.flatMap f).length ≤ xs.length * m := by
  induction xs with
  | nil => simp
  | cons x xs ih =>
    have h1 := h x List.mem_cons_self
    have h2 := ih fun y hy => h y (List.mem_cons_of_mem _ hy)
    rw [List.flatMap_cons, List.length_append, List.length_cons, Nat.succ_mul]
    omega
theorem mem_take_idx {xs : List Str} {x : Str} {j : Nat} (h : x ∈ xs.take j) : xs.idxOf x < j := by
  have h1 : xs.idxOf x = (xs.take j).idxOf x := by
    conv => lhs; rw [← List.take_append_drop j xs]
    rw [List.idxOf_append, if_pos h]
  have h2 := List.idxOf_lt_length_of_mem h
  rw [List.length_take] at h2
  omega
theorem take_idx {xs : List Str} {x : Str} (h : x ∈ xs) {j : Nat} (hj : xs.idxOf x < j) : x ∈ xs.take j := by
  rw [List.mem_iff_getElem?]
  refine ⟨xs.idxOf x, ?_⟩
  rw [List.getElem?_take_of_lt hj, List.getElem?_eq_getElem (List.idxOf_lt_length_of_mem h), List.getElem_idxOf]
theorem drop_idx {xs : List Str} {x : Str} (h : x ∈ xs) {j : Nat} (hj : j ≤ xs.idxOf x) : x ∈ xs.drop j := by
  have h1 : x ∈ xs.take j ++ xs.drop j := by rw [List.take_append_drop]; exact h
  rcases List.mem_append.mp h1 with z | z
  · have := mem_take_idx z; omega
  · exact z
theorem idx_inj {xs : List Str} {x y : Str} (hx : x ∈ xs) (hy : y ∈ xs) (h : xs.idxOf x = xs.idxOf y) : x = y := by
  have h1 := List.getElem_idxOf (List.idxOf_lt_length_of_mem hx)
  have h2 := List.getElem_idxOf (List.idxOf_lt_length_of_mem hy)
  rw [← h1, ← h2]; simp only [h]
theorem eBin_eq {op : D → D → Option Rs} {fa fb : E} {e : Env} {ra rb r : Rs} {da db : D} (h1 : fa e = some (ra, e)) (h2 : fb e = some (rb, e)) (l1 : look (settle ra) e = some da) (l2 : look rb e = some db) (ho : op da db = some r) : eBin op fa fb e = some (r, e) := by
  simp [eBin, h1, h2, l1, l2, ho]
theorem eUn_eq {op : D → Option Rs} {fa : E} {e : Env} {ra r : Rs} {da : D} (h1 : fa e = some (ra, e)) (l1 : look ra e = some da) (ho : op da = some r) : eUn op fa e = some (r, e) := by
  simp [eUn, h1, l1, ho]
theorem opAdd_strs {a b : List Str} (h : a.length + b.length ≤ sizeLine) : opAdd (sts a) (sts b) = some (.new (sts (a ++ b))) := by
  simp [opAdd, sts, h]
/-- a comprehension whose test changes the state -/
theorem eComp_ex {α β : Type} {it : I} {tg : TgE} {t : T} {f : E} {vs : List Nat} {e e1 : Env} {l : Option Nat} (xs : List α) (enc : α → D) (enc' : β → D) (g : α → β) (P J : Env → Prop) (hit : it e = some (xs.map enc, l, e1)) (hw : okWipe e1 vs = true) (h0 : P (wipeE e1 vs))
    (hs : ∀ x ∈ xs, ∀ W, P W → ∃ e2 b e3, tg (enc x) W = some e2 ∧ t e2 = some (b, e3) ∧ okWipe e3 vs = true ∧ P (wipeE e3 vs) ∧ (b = true → ∃ r, f e3 = some (r, e3) ∧ take r e3 = some (enc' (g x), e3)))
    (hu : ∀ W, P W → ∃ e3, unlockE l (restoreE e1 W vs) = some e3 ∧ J e3) :
    ∃ ys : List α, ys.Sublist xs ∧ ∃ e3, eComp it tg t f vs e = some (.new (.list ((ys.map g).map enc')), e3) ∧ J e3 := by
  have go : ∀ zs : List α, zs ⊆ xs → ∀ e, P (wipeE e vs) → ∃ ys : List α, ys.Sublist zs ∧ ∃ e', loopC tg t f vs (zs.map enc) e = some ((ys.map g).map enc', e') ∧ P (wipeE e' vs) := by
    intro zs
    induction zs with
    | nil => exact fun _ e h => ⟨[], List.Sublist.refl _, e, rfl, h⟩
    | cons z zs ih =>
      intro hz e h
      obtain ⟨e2, b, e3, h1, h2, h3, h4, h5⟩ := hs z (hz List.mem_cons_self) _ h
      obtain ⟨ys, h6, e', h7, h8⟩ := ih (fun a q => hz (List.mem_cons_of_mem _ q)) e3 h4
      cases b with
      | true =>
        obtain ⟨r, h9, h10⟩ := h5 rfl
        refine ⟨z :: ys, h6.cons_cons z, e', ?_, h8⟩
        simp only [List.map_cons, loopC, h1, h2, h9, h10, h3, h7, bind, Option.bind, if_true, pure]
      | false =>
        refine ⟨ys, h6.cons z, e', ?_, h8⟩
        simp only [List.map_cons, loopC, h1, h2, h3, h7, bind, Option.bind, if_true]
        rfl
  obtain ⟨ys, h1, e', h2, h3⟩ := go xs (fun a h => h) e1 h0
  obtain ⟨e3, h4, h5⟩ := hu _ h3
  exact ⟨ys, h1, e3, by simp only [eComp, hit, hw, h2, h4, bind, Option.bind, if_true, pure], h5⟩
end Ev
set_option Elab.async false
set_option linter.all false
set_option maxRecDepth 100000
set_option maxHeartbeats 1000000
namespace LawX
open PySem PySem.Spec PyProof.Rows L2 Ev
section
variable {P : Program} {w : World} {K : PySem.W.Frag} {mg : Str → Option Value} {base : Heap}
def topS (i : Nat) : Stmt := PySem.Challenge.pw_leadlight_k68_perfect_partings_and_recta.main.body.getD i (.Pass ⟨0, 0, 0, 0⟩)
/-! ### is_parting -/
abbrev st_is_parting : Stmt := topS 1
theorem sc_is_parting : FnScope ["width", "height", "squares", "_", "side", "x", "y", "at", "one", "other", "across", "up"] ["width", "height", "squares"] (C8.fnScope st_is_parting) := C8.fnScope_by (by decide +kernel)
def ev_is_parting : S :=
 sSeq (sIf (asT (eBin opNe (eUn opSum (eWith 2 (eComp (iN 2) (gTp 3 (gsCons (gNm 3) (gsCons (gNm 3) (gsCons (gNm 4) (gsNil))))) (tYes') (eBin opMul (eV 4) (eV 4)) [3, 4]))) (eBin opMul (eV 0) (eV 1))))
 (sRet (eC (.bool false)))
 (sNil))
 (sSeq (sWith 2 (sFor (iN 2) (gTp 3 (gsCons (gNm 5) (gsCons (gNm 6) (gsCons (gNm 4) (gsNil)))))
 (sIf (tOr' (asT (eBin opLt (eV 4) (eC (.int 1)))) (tOr' (asT (eBin opLt (eV 5) (eC (.int 0)))) (tOr' (asT (eBin opLt (eV 6) (eC (.int 0)))) (tOr' (asT (eBin opGt (eBin opAdd (eV 5) (eV 4)) (eV 0))) (asT (eBin opGt (eBin opAdd (eV 6) (eV 4)) (eV 1)))))))
 (sRet (eC (.bool false)))
 (sNil))))
 (sSeq (sFor (iEnum (eV 2)) (gTp 2 (gsCons (gNm 7) (gsCons (gNm 8) (gsNil))))
 (sFor (iE (eSlice (eV 2) (oSome (eBin opAdd (eV 7) (eC (.int 1)))) (oNone))) (gNm 9)
 (sSeq (sAsg 10 (eAnd (eBin opLt (eSub (eV 8) (eC (.int 0))) (eBin opAdd (eSub (eV 9) (eC (.int 0))) (eSub (eV 9) (eC (.int 2))))) (eBin opLt (eSub (eV 9) (eC (.int 0))) (eBin opAdd (eSub (eV 8) (eC (.int 0))) (eSub (eV 8) (eC (.int 2)))))))
 (sSeq (sAsg 11 (eAnd (eBin opLt (eSub (eV 8) (eC (.int 1))) (eBin opAdd (eSub (eV 9) (eC (.int 1))) (eSub (eV 9) (eC (.int 2))))) (eBin opLt (eSub (eV 9) (eC (.int 1))) (eBin opAdd (eSub (eV 8) (eC (.int 1))) (eSub (eV 8) (eC (.int 2)))))))
 (sIf (tAnd' (tTru (eV 10)) (tTru (eV 11)))
 (sRet (eC (.bool false)))
 (sNil))))))
 (sRet (eC (.bool true)))))
def fd_is_parting : Fd := fnF 3 12 ev_is_parting
theorem bo_is_parting (B : Bl mg) (D : DefOk K mg "is_parting" st_is_parting ["width", "height", "squares"]) : BodyOk P w K mg base 0 "is_parting" st_is_parting ["width", "height", "squares", "_", "side", "x", "y", "at", "one", "other", "across", "up"] ev_is_parting := by
  intro g cdv A outer s H E hr
  have hu := roomRm hr
  have nd := sc_is_parting.nd
  exact
   jss_cons (js_if (jt_cp (cr_ne hu) (je_unB (cr_sum rfl) ok_sum B.sum (je_with (je_compG (h := itN 2) (own := [("_", 3), ("side", 4)]) rfl nd (pi_N 2) (blkOk_by (by kernel_rfl)) (fun _ _ _ _ _ => jg_tup rfl (jgs_cons (jg_nm 3 nd) (jgs_cons (jg_nm 3 nd) (jgs_cons (jg_nm 4 nd) (jgs_nil))))) (fun _ _ _ _ _ => jts_nil) (fun _ _ _ _ _ => je_mul (je_v 4) (je_v 4)))) (by decide +kernel)) (je_mul (je_v 0) (je_v 1)))
    (jss_one (js_ret (je_bl)))
    (jss_nil))
    (jss_cons (js_with (js_forG (itN 2) rfl PassesOwn.never (pi_N 2) (jg_tup rfl (jgs_cons (jg_nm 5 nd) (jgs_cons (jg_nm 6 nd) (jgs_cons (jg_nm 4 nd) (jgs_nil)))))
    (jss_one (js_if (jt_w (jw_or (jt_cp (cr_lt hu) (je_v 4) (je_int)) (jw_or (jt_cp (cr_lt hu) (je_v 5) (je_int)) (jw_or (jt_cp (cr_lt hu) (je_v 6) (je_int)) (jw_or (jt_cp (cr_gt hu) (je_add (je_v 5) (je_v 4)) (je_v 0)) (jw_or1 (jt_cp (cr_gt hu) (je_add (je_v 6) (je_v 4)) (je_v 1))))))))
    (jss_one (js_ret (je_bl)))
    (jss_nil)))))
    (jss_cons (js_for rfl PassesOwn.never (ji_enum B (je_v 2)) (jg_tup rfl (jgs_cons (jg_nm 7 nd) (jgs_cons (jg_nm 8 nd) (jgs_nil))))
    (jss_one (js_for rfl PassesOwn.never (ji_e (je_slice (je_v 2) (jo_some (je_add (je_v 7) (je_int))) (jo_none))) (jg_nm 9 nd)
    (jss_cons (js_asg (i := 10) nd (je_and (je_cp (cr_lt hu) (je_sub2 hu (je_v 8) (je_int)) (je_add (je_sub2 hu (je_v 9) (je_int)) (je_sub2 hu (je_v 9) (je_int)))) (je_one (je_cp (cr_lt hu) (je_sub2 hu (je_v 9) (je_int)) (je_add (je_sub2 hu (je_v 8) (je_int)) (je_sub2 hu (je_v 8) (je_int)))))))
    (jss_cons (js_asg (i := 11) nd (je_and (je_cp (cr_lt hu) (je_sub2 hu (je_v 8) (je_int)) (je_add (je_sub2 hu (je_v 9) (je_int)) (je_sub2 hu (je_v 9) (je_int)))) (je_one (je_cp (cr_lt hu) (je_sub2 hu (je_v 9) (je_int)) (je_add (je_sub2 hu (je_v 8) (je_int)) (je_sub2 hu (je_v 8) (je_int)))))))
    (jss_one (js_if (jt_w (jw_and (jt_tru (je_v 10)) (jw_and1 (jt_tru (je_v 11)))))
    (jss_one (js_ret (je_bl)))
    (jss_nil))))))))
    (jss_one (js_ret (je_bl)))))
theorem cal_is_parting (B : Bl mg) (D : DefOk K mg "is_parting" st_is_parting ["width", "height", "squares"]) : C8.Cal P w K mg base 1 "is_parting" (spF K fd_is_parting) [] := calF (k := 0) D sc_is_parting (bo_is_parting B D) (by decide)
/-! ### is_perfect -/
abbrev st_is_perfect : Stmt := topS 2
theorem sc_is_perfect : FnScope ["squares", "_", "side"] ["squares"] (C8.fnScope st_is_perfect) := C8.fnScope_by (by decide +kernel)
def ev_is_perfect : S :=
 sRet (eBin opEq (eUn opLenSet (eWith 0 (eComp (iN 0) (gTp 3 (gsCons (gNm 1) (gsCons (gNm 1) (gsCons (gNm 2) (gsNil))))) (tYes') (eV 2) [1, 2]))) (eUn opLen (eV 0)))
def fd_is_perfect : Fd := fnF 1 3 ev_is_perfect
theorem bo_is_perfect (B : Bl mg) (D : DefOk K mg "is_perfect" st_is_perfect ["squares"]) : BodyOk P w K mg base 0 "is_perfect" st_is_perfect ["squares", "_", "side"] ev_is_perfect := by
  intro g cdv A outer s H E hr
  have hu := roomRm hr
  have nd := sc_is_perfect.nd
  exact
   jss_one (js_ret (je_cp (cr_eq hu) (je_lenSet rfl B (je_with (je_compG (h := itN 0) (own := [("_", 1), ("side", 2)]) rfl nd (pi_N 0) (blkOk_by (by kernel_rfl)) (fun _ _ _ _ _ => jg_tup rfl (jgs_cons (jg_nm 1 nd) (jgs_cons (jg_nm 1 nd) (jgs_cons (jg_nm 2 nd) (jgs_nil))))) (fun _ _ _ _ _ => jts_nil) (fun _ _ _ _ _ => je_v 2)))) (je_unB call_len4 ok_len B.len (je_v 0) boot_len)))
theorem cal_is_perfect (B : Bl mg) (D : DefOk K mg "is_perfect" st_is_perfect ["squares"]) : C8.Cal P w K mg base 1 "is_perfect" (spF K fd_is_perfect) [] := calF (k := 0) D sc_is_perfect (bo_is_perfect B D) (by decide)
/-! ### is_within -/
abbrev st_is_within : Stmt := topS 4
theorem sc_is_within : FnScope ["square", "x", "y", "right", "low"] ["square", "x", "y", "right", "low"] (C8.fnScope st_is_within) := C8.fnScope_by (by decide +kernel)
def ev_is_within : S :=
 sRet (eAnd (eBin opLe (eV 1) (eSub (eV 0) (eC (.int 0)))) (eAnd (eBin opLe (eV 2) (eSub (eV 0) (eC (.int 1)))) (eAnd (eBin opLe (eBin opAdd (eSub (eV 0) (eC (.int 0))) (eSub (eV 0) (eC (.int 2)))) (eV 3)) (eBin opLe (eBin opAdd (eSub (eV 0) (eC (.int 1))) (eSub (eV 0) (eC (.int 2)))) (eV 4)))))
def fd_is_within : Fd := fnF 5 5 ev_is_within
theorem bo_is_within (B : Bl mg) (D : DefOk K mg "is_within" st_is_within ["square", "x", "y", "right", "low"]) : BodyOk P w K mg base 0 "is_within" st_is_within ["square", "x", "y", "right", "low"] ev_is_within := by
  intro g cdv A outer s H E hr
  have hu := roomRm hr
  have nd := sc_is_within.nd
  exact
   jss_one (js_ret (je_and (je_cp (cr_le hu) (je_v 1) (je_sub2 hu (je_v 0) (je_int))) (je_and (je_cp (cr_le hu) (je_v 2) (je_sub2 hu (je_v 0) (je_int))) (je_and (je_cp (cr_le hu) (je_add (je_sub2 hu (je_v 0) (je_int)) (je_sub2 hu (je_v 0) (je_int))) (je_v 3)) (je_one (je_cp (cr_le hu) (je_add (je_sub2 hu (je_v 0) (je_int)) (je_sub2 hu (je_v 0) (je_int))) (je_v 4)))))))
theorem cal_is_within (B : Bl mg) (D : DefOk K mg "is_within" st_is_within ["square", "x", "y", "right", "low"]) : C8.Cal P w K mg base 1 "is_within" (spF K fd_is_within) [] := calF (k := 0) D sc_is_within (bo_is_within B D) (by decide)
/-! ### inner_rectangle -/
abbrev st_inner_rectangle : Stmt := topS 3
theorem sc_inner_rectangle : FnScope ["width", "height", "squares", "across", "x", "_", "up", "y", "right", "one", "low", "told", "square", "whole", "side"] ["width", "height", "squares"] (C8.fnScope st_inner_rectangle) := C8.fnScope_by (by decide +kernel)
def ev_inner_rectangle : S :=
 sSeq (sAsg 3 (eUn opSsI (eBin opAdd (eWith 2 (eComp (iN 2) (gTp 3 (gsCons (gNm 4) (gsCons (gNm 5) (gsCons (gNm 5) (gsNil))))) (tYes') (eV 4) [4, 5])) (eList (adCons (eV 0) (adNil))))))
 (sSeq (sAsg 6 (eUn opSsI (eBin opAdd (eWith 2 (eComp (iN 2) (gTp 3 (gsCons (gNm 5) (gsCons (gNm 7) (gsCons (gNm 5) (gsNil))))) (tYes') (eV 7) [5, 7])) (eList (adCons (eV 1) (adNil))))))
 (sSeq (sWith 3 (sFor (iN 3) (gNm 4)
 (sWith 6 (sFor (iN 6) (gNm 7)
 (sFor (iE (eWith 3 (eComp (iN 3) (gNm 9) (asT (eBin opGt (eV 9) (eV 4))) (eV 9) [9]))) (gNm 8)
 (sFor (iE (eWith 6 (eComp (iN 6) (gNm 9) (asT (eBin opGt (eV 9) (eV 7))) (eV 9) [9]))) (gNm 10)
 (sSeq (sWith 2 (sAsg 11 (eComp (iN 2) (gNm 12) (tTru (callF fd_is_within (arCons (eV 12) (arCons (eV 4) (arCons (eV 7) (arCons (eV 8) (arCons (eV 10) (arNil)))))))) (eV 12) [12])))
 (sSeq (sAsg 13 (eBin opEq (eUn opSum (eWith 11 (eComp (iN 11) (gTp 3 (gsCons (gNm 5) (gsCons (gNm 5) (gsCons (gNm 14) (gsNil))))) (tYes') (eBin opMul (eV 14) (eV 14)) [5, 14]))) (eBin opMul (eBin opSub (eV 8) (eV 4)) (eBin opSub (eV 10) (eV 7)))))
 (sIf (tAnd' (tTru (eV 13)) (asT (eCh opLt opLt (eC (.int 1)) (eUn opLen (eV 11)) (eUn opLen (eV 2)))))
 (sRet (eTup (adCons (eV 4) (adCons (eV 7) (adCons (eBin opSub (eV 8) (eV 4)) (adCons (eBin opSub (eV 10) (eV 7)) (adNil)))))))
 (sNil))))))))))
 (sRet (eC .none))))
def fd_inner_rectangle : Fd := fnF 3 15 ev_inner_rectangle
theorem bo_inner_rectangle (B : Bl mg) (D : DefOk K mg "inner_rectangle" st_inner_rectangle ["width", "height", "squares"]) (c_is_within : C8.Cal P w K mg base 1 "is_within" (spF K fd_is_within) []) : BodyOk P w K mg base 1 "inner_rectangle" st_inner_rectangle ["width", "height", "squares", "across", "x", "_", "up", "y", "right", "one", "low", "told", "square", "whole", "side"] ev_inner_rectangle := by
  intro g cdv A outer s H E hr
  have hu := roomRm hr
  have nd := sc_inner_rectangle.nd
  exact
   jss_cons (js_asg (i := 3) nd (je_ssI rfl B (je_add (je_with (je_compG (h := itN 2) (own := [("x", 4), ("_", 5)]) rfl nd (pi_N 2) (blkOk_by (by kernel_rfl)) (fun _ _ _ _ _ => jg_tup rfl (jgs_cons (jg_nm 4 nd) (jgs_cons (jg_nm 5 nd) (jgs_cons (jg_nm 5 nd) (jgs_nil))))) (fun _ _ _ _ _ => jts_nil) (fun _ _ _ _ _ => je_v 4))) (je_list (jad_cons (je_v 0) (jad_nil))))))
    (jss_cons (js_asg (i := 6) nd (je_ssI rfl B (je_add (je_with (je_compG (h := itN 2) (own := [("_", 5), ("y", 7)]) rfl nd (pi_N 2) (blkOk_by (by kernel_rfl)) (fun _ _ _ _ _ => jg_tup rfl (jgs_cons (jg_nm 5 nd) (jgs_cons (jg_nm 7 nd) (jgs_cons (jg_nm 5 nd) (jgs_nil))))) (fun _ _ _ _ _ => jts_nil) (fun _ _ _ _ _ => je_v 7))) (je_list (jad_cons (je_v 1) (jad_nil))))))
    (jss_cons (js_with (js_forG (itN 3) rfl PassesOwn.never (pi_N 3) (jg_nm 4 nd)
    (jss_one (js_with (js_forG (itN 6) rfl PassesOwn.never (pi_N 6) (jg_nm 7 nd)
    (jss_one (js_for rfl PassesOwn.never (ji_e (je_with (je_compG (h := itN 3) (own := [("one", 9)]) rfl nd (pi_N 3) (blkOk_by (by kernel_rfl)) (fun _ _ _ _ _ => jg_nm 9 nd) (fun _ _ _ _ _ => jts_one (jt_cp (cr_gt hu) (je_v 9) (je_v 4))) (fun _ _ _ _ _ => je_v 9)))) (jg_nm 8 nd)
    (jss_one (js_for rfl PassesOwn.never (ji_e (je_with (je_compG (h := itN 6) (own := [("one", 9)]) rfl nd (pi_N 6) (blkOk_by (by kernel_rfl)) (fun _ _ _ _ _ => jg_nm 9 nd) (fun _ _ _ _ _ => jts_one (jt_cp (cr_gt hu) (je_v 9) (je_v 7))) (fun _ _ _ _ _ => je_v 9)))) (jg_nm 10 nd)
    (jss_cons (js_with (js_setCompG (i := 11) (h := itN 2) (own := [("square", 12)]) rfl nd (pi_N 2) (blkOk_by (by kernel_rfl)) (fun _ _ _ _ _ => jg_nm 12 nd) (fun _ _ _ _ _ => jts_one (jt_tru (je_callF c_is_within hr (by decide) rfl (jar_cons (je_v 12) (jar_cons (je_v 4) (jar_cons (je_v 7) (jar_cons (je_v 8) (jar_cons (je_v 10) (jar_nil))))))))) (fun _ _ _ _ _ => je_v 12)))
    (jss_cons (js_asg (i := 13) nd (je_cp (cr_eq hu) (je_unB (cr_sum rfl) ok_sum B.sum (je_with (je_compG (h := itN 11) (own := [("_", 5), ("side", 14)]) rfl nd (pi_N 11) (blkOk_by (by kernel_rfl)) (fun _ _ _ _ _ => jg_tup rfl (jgs_cons (jg_nm 5 nd) (jgs_cons (jg_nm 5 nd) (jgs_cons (jg_nm 14 nd) (jgs_nil))))) (fun _ _ _ _ _ => jts_nil) (fun _ _ _ _ _ => je_mul (je_v 14) (je_v 14)))) (by decide +kernel)) (je_mul (je_sub (je_v 8) (je_v 4)) (je_sub (je_v 10) (je_v 7)))))
    (jss_one (js_if (jt_w (jw_and (jt_tru (je_v 13)) (jw_and1 (jt_ch (cr_lt hu) (cr_lt hu) (je_int) (je_unB call_len4 ok_len B.len (je_v 11) boot_len) (je_unB call_len4 ok_len B.len (je_v 2) boot_len)))))
    (jss_one (js_ret (je_tup (jad_cons (je_v 4) (jad_cons (je_v 7) (jad_cons (je_sub (je_v 8) (je_v 4)) (jad_cons (je_sub (je_v 10) (je_v 7)) (jad_nil))))))))
    (jss_nil))))))))))))))
    (jss_one (js_ret (je_non)))))
theorem cal_inner_rectangle (B : Bl mg) (D : DefOk K mg "inner_rectangle" st_inner_rectangle ["width", "height", "squares"]) (c_is_within : C8.Cal P w K mg base 1 "is_within" (spF K fd_is_within) []) : C8.Cal P w K mg base 2 "inner_rectangle" (spF K fd_inner_rectangle) [] := calF (k := 1) D sc_inner_rectangle (bo_inner_rectangle B D c_is_within) (by decide)
/-! ### _law_mixed -/
abbrev st__law_mixed : Stmt := topS 6
theorem sc__law_mixed : FnScope ["number", "place", "first", "second", "third"] ["number", "place"] (C8.fnScope st__law_mixed) := C8.fnScope_by (by decide +kernel)
def ev__law_mixed : S :=
 sSeq (sAsg 2 (eBin opMod (eUn opInt (eBin opAdd (eBin opAdd (eBin opMul (eV 0) (eC (.int 48271))) (eBin opMul (eV 1) (eC (.int 69621)))) (eC (.int 11)))) (eC (.int 618970019642690137449562111))))
 (sSeq (sAsg 3 (eBin opMod (eUn opInt (eBin opAdd (eBin opAdd (eBin opMul (eV 2) (eV 2)) (eBin opMul (eC (.int 7)) (eV 2))) (eV 1))) (eC (.int 162259276829213363391578010288127))))
 (sSeq (sAsg 4 (eBin opMod (eUn opInt (eBin opAdd (eBin opMul (eV 3) (eV 3)) (eV 2))) (eC (.int 618970019642690137449562111))))
 (sRet (eBin opAdd (eBin opMul (eV 3) (eC (.int 618970019642690137449562111))) (eV 4)))))
def fd__law_mixed : Fd := fnF 2 5 ev__law_mixed
theorem bo__law_mixed (B : Bl mg) (D : DefOk K mg "_law_mixed" st__law_mixed ["number", "place"]) : BodyOk P w K mg base 0 "_law_mixed" st__law_mixed ["number", "place", "first", "second", "third"] ev__law_mixed := by
  intro g cdv A outer s H E hr
  have hu := roomRm hr
  have nd := sc__law_mixed.nd
  exact
   jss_cons (js_asg (i := 2) nd (je_mod (je_unT call_int1 ok_int B.int (je_add (je_add (je_mul (je_v 0) (je_int)) (je_mul (je_v 1) (je_int))) (je_int)) (by decide +kernel)) (je_int)))
    (jss_cons (js_asg (i := 3) nd (je_mod (je_unT call_int1 ok_int B.int (je_add (je_add (je_mul (je_v 2) (je_v 2)) (je_mul (je_int) (je_v 2))) (je_v 1)) (by decide +kernel)) (je_int)))
    (jss_cons (js_asg (i := 4) nd (je_mod (je_unT call_int1 ok_int B.int (je_add (je_mul (je_v 3) (je_v 3)) (je_v 2)) (by decide +kernel)) (je_int)))
    (jss_one (js_ret (je_add (je_mul (je_v 3) (je_int)) (je_v 4))))))
theorem cal__law_mixed (B : Bl mg) (D : DefOk K mg "_law_mixed" st__law_mixed ["number", "place"]) : C8.Cal P w K mg base 1 "_law_mixed" (spF K fd__law_mixed) [] := calF (k := 0) D sc__law_mixed (bo__law_mixed B D) (by decide)
/-! ### _law_rest -/
abbrev st__law_rest : Stmt := topS 7
theorem sc__law_rest : FnScope ["script", "place", "fills", "number"] ["script", "place", "fills"] (C8.fnScope st__law_rest) := C8.fnScope_by (by decide +kernel)
def ev__law_rest : S :=
 sSeq (sAsg 3 (eC (.int 0)))
 (sSeq (sIf (asT (eBin opGt (eUn opLen (eV 0)) (eC (.int 0))))
 (sAsg 3 (eUn opInt (eSub (eV 0) (eBin opMod (eUn opInt (eV 1)) (eUn opLen (eV 0))))))
 (sNil))
 (sSeq (sIf (asT (eBin opLt (eV 3) (eC (.int 0))))
 (sAsg 3 (eBin opSub (eC (.int 1)) (eBin opMul (eC (.int 2)) (eV 3))))
 (sNil))
 (sSeq (sIf (tAnd' (asT (eBin opEq (eV 2) (eC (.int 0)))) (tAnd' (asT (eBin opLt (eV 1) (eUn opLen (eV 0)))) (asT (eBin opGe (eV 3) (eBin opPow (eC (.int 10)) (eC (.int 18)))))))
 (sRet (eBin opSub (eV 3) (eBin opPow (eC (.int 10)) (eC (.int 18)))))
 (sNil))
 (sRet (callF fd__law_mixed (arCons (eBin opAdd (eV 3) (eBin opMul (eV 2) (eC (.int 1000003)))) (arCons (eV 1) (arNil))))))))
def fd__law_rest : Fd := fnF 3 4 ev__law_rest
theorem bo__law_rest (B : Bl mg) (D : DefOk K mg "_law_rest" st__law_rest ["script", "place", "fills"]) (c__law_mixed : C8.Cal P w K mg base 1 "_law_mixed" (spF K fd__law_mixed) []) : BodyOk P w K mg base 1 "_law_rest" st__law_rest ["script", "place", "fills", "number"] ev__law_rest := by
  intro g cdv A outer s H E hr
  have hu := roomRm hr
  have nd := sc__law_rest.nd
  exact
   jss_cons (js_asg (i := 3) nd (je_int))
    (jss_cons (js_if (jt_cp (cr_gt hu) (je_unB call_len4 ok_len B.len (je_v 0) boot_len) (je_int))
    (jss_one (js_asg (i := 3) nd (je_unT call_int1 ok_int B.int (je_sub2 hu (je_v 0) (je_mod (je_unT call_int1 ok_int B.int (je_v 1) (by decide +kernel)) (je_unB call_len4 ok_len B.len (je_v 0) boot_len))) (by decide +kernel))))
    (jss_nil))
    (jss_cons (js_if (jt_cp (cr_lt hu) (je_v 3) (je_int))
    (jss_one (js_asg (i := 3) nd (je_sub (je_int) (je_mul (je_int) (je_v 3)))))
    (jss_nil))
    (jss_cons (js_if (jt_w (jw_and (jt_cp (cr_eq hu) (je_v 2) (je_int)) (jw_and (jt_cp (cr_lt hu) (je_v 1) (je_unB call_len4 ok_len B.len (je_v 0) boot_len)) (jw_and1 (jt_cp (cr_ge hu) (je_v 3) (je_pow (je_int) (je_int)))))))
    (jss_one (js_ret (je_sub (je_v 3) (je_pow (je_int) (je_int)))))
    (jss_nil))
    (jss_one (js_ret (je_callF c__law_mixed hr (by decide) rfl (jar_cons (je_add (je_v 3) (je_mul (je_v 2) (je_int))) (jar_cons (je_v 1) (jar_nil)))))))))
theorem cal__law_rest (B : Bl mg) (D : DefOk K mg "_law_rest" st__law_rest ["script", "place", "fills"]) (c__law_mixed : C8.Cal P w K mg base 1 "_law_mixed" (spF K fd__law_mixed) []) : C8.Cal P w K mg base 2 "_law_rest" (spF K fd__law_rest) [] := calF (k := 1) D sc__law_rest (bo__law_rest B D c__law_mixed) (by decide)
/-! ### _law_pool -/
abbrev st__law_pool : Stmt := topS 8
theorem sc__law_pool : FnScope ["script"] ["script"] (C8.fnScope st__law_pool) := C8.fnScope_by (by decide +kernel)
def ev__law_pool : S :=
 sRet (eList (adCons (eV 0) (adCons (eC (.int 0)) (adCons (callF fd__law_rest (arCons (eV 0) (arCons (eC (.int 0)) (arCons (eC (.int 0)) (arNil))))) (adCons (eC (.int 0)) (adNil))))))
def fd__law_pool : Fd := fnF 1 1 ev__law_pool
theorem bo__law_pool (B : Bl mg) (D : DefOk K mg "_law_pool" st__law_pool ["script"]) (c__law_rest : C8.Cal P w K mg base 2 "_law_rest" (spF K fd__law_rest) []) : BodyOk P w K mg base 2 "_law_pool" st__law_pool ["script"] ev__law_pool := by
  intro g cdv A outer s H E hr
  have hu := roomRm hr
  have nd := sc__law_pool.nd
  exact
   jss_one (js_ret (je_list (jad_cons (je_v 0) (jad_cons (je_int) (jad_cons (je_callF c__law_rest hr (by decide) rfl (jar_cons (je_v 0) (jar_cons (je_int) (jar_cons (je_int) (jar_nil))))) (jad_cons (je_int) (jad_nil)))))))
theorem cal__law_pool (B : Bl mg) (D : DefOk K mg "_law_pool" st__law_pool ["script"]) (c__law_rest : C8.Cal P w K mg base 2 "_law_rest" (spF K fd__law_rest) []) : C8.Cal P w K mg base 3 "_law_pool" (spF K fd__law_pool) [] := calF (k := 2) D sc__law_pool (bo__law_pool B D c__law_rest) (by decide)
/-! ### _law_next -/
abbrev st__law_next : Stmt := topS 9
theorem sc__law_next : FnScope ["pool"] ["pool"] (C8.fnScope st__law_next) := C8.fnScope_by (by decide +kernel)
def ev__law_next : S :=
 sSeq (sSub (eBin opAdd (eSub (eV 0) (eC (.int 1))) (eC (.int 1))) (eV 0) (eC (.int 1)))
 (sSeq (sSub (callF fd__law_rest (arCons (eSub (eV 0) (eC (.int 0))) (arCons (eSub (eV 0) (eC (.int 1))) (arCons (eC (.int 0)) (arNil))))) (eV 0) (eC (.int 2)))
 (sSub (eC (.int 0)) (eV 0) (eC (.int 3))))
def fd__law_next : Fd := fnW 1 1 ev__law_next
theorem bo__law_next (B : Bl mg) (D : DefOk K mg "_law_next" st__law_next ["pool"]) (c__law_rest : C8.Cal P w K mg base 2 "_law_rest" (spF K fd__law_rest) []) : BodyOk P w K mg base 2 "_law_next" st__law_next ["pool"] ev__law_next := by
  intro g cdv A outer s H E hr
  have hu := roomRm hr
  have nd := sc__law_next.nd
  exact
   jss_cons (js_sub hu (je_add (je_sub2 hu (je_v 0) (je_int)) (je_int)) (je_v 0) (je_int))
    (jss_cons (js_sub hu (je_callF c__law_rest hr (by decide) rfl (jar_cons (je_sub2 hu (je_v 0) (je_int)) (jar_cons (je_sub2 hu (je_v 0) (je_int)) (jar_cons (je_int) (jar_nil))))) (je_v 0) (je_int))
    (jss_one (js_sub hu (je_int) (je_v 0) (je_int))))
theorem cal__law_next (B : Bl mg) (D : DefOk K mg "_law_next" st__law_next ["pool"]) (c__law_rest : C8.Cal P w K mg base 2 "_law_rest" (spF K fd__law_rest) []) : C8.Cal P w K mg base 3 "_law_next" (spW K fd__law_next) [] := calW (k := 2) D sc__law_next (bo__law_next B D c__law_rest) (by decide)
/-! ### _law_draw -/
abbrev st__law_draw : Stmt := topS 10
theorem sc__law_draw : FnScope ["pool", "limit", "value"] ["pool", "limit"] (C8.fnScope st__law_draw) := C8.fnScope_by (by decide +kernel)
def ev__law_draw : S :=
 sSeq (sIf (asT (eBin opLe (eSub (eV 0) (eC (.int 2))) (eC (.int 1))))
 (sSeq (sSub (eBin opAdd (eSub (eV 0) (eC (.int 3))) (eC (.int 1))) (eV 0) (eC (.int 3)))
 (sSub (callF fd__law_rest (arCons (eSub (eV 0) (eC (.int 0))) (arCons (eSub (eV 0) (eC (.int 1))) (arCons (eSub (eV 0) (eC (.int 3))) (arNil))))) (eV 0) (eC (.int 2))))
 (sNil))
 (sSeq (sAsg 2 (eBin opMod (eUn opInt (eSub (eV 0) (eC (.int 2)))) (eV 1)))
 (sSeq (sSub (eBin opDiv (eUn opInt (eSub (eV 0) (eC (.int 2)))) (eV 1)) (eV 0) (eC (.int 2)))
 (sRet (eV 2))))
def fd__law_draw : Fd := fnW 2 3 ev__law_draw
theorem bo__law_draw (B : Bl mg) (D : DefOk K mg "_law_draw" st__law_draw ["pool", "limit"]) (c__law_rest : C8.Cal P w K mg base 2 "_law_rest" (spF K fd__law_rest) []) : BodyOk P w K mg base 2 "_law_draw" st__law_draw ["pool", "limit", "value"] ev__law_draw := by
  intro g cdv A outer s H E hr
  have hu := roomRm hr
  have nd := sc__law_draw.nd
  exact
   jss_cons (js_if (jt_cp (cr_le hu) (je_sub2 hu (je_v 0) (je_int)) (je_int))
    (jss_cons (js_sub hu (je_add (je_sub2 hu (je_v 0) (je_int)) (je_int)) (je_v 0) (je_int))
    (jss_one (js_sub hu (je_callF c__law_rest hr (by decide) rfl (jar_cons (je_sub2 hu (je_v 0) (je_int)) (jar_cons (je_sub2 hu (je_v 0) (je_int)) (jar_cons (je_sub2 hu (je_v 0) (je_int)) (jar_nil))))) (je_v 0) (je_int))))
    (jss_nil))
    (jss_cons (js_asg (i := 2) nd (je_mod (je_unT call_int1 ok_int B.int (je_sub2 hu (je_v 0) (je_int)) (by decide +kernel)) (je_v 1)))
    (jss_cons (js_sub hu (je_div (je_unT call_int1 ok_int B.int (je_sub2 hu (je_v 0) (je_int)) (by decide +kernel)) (je_v 1)) (je_v 0) (je_int))
    (jss_one (js_ret (je_v 2)))))
theorem cal__law_draw (B : Bl mg) (D : DefOk K mg "_law_draw" st__law_draw ["pool", "limit"]) (c__law_rest : C8.Cal P w K mg base 2 "_law_rest" (spF K fd__law_rest) []) : C8.Cal P w K mg base 3 "_law_draw" (spW K fd__law_draw) [] := calW (k := 2) D sc__law_draw (bo__law_draw B D c__law_rest) (by decide)
/-! ### _law_same -/
abbrev st__law_same : Stmt := topS 11
theorem sc__law_same : FnScope ["answer", "due", "key", "k"] ["answer", "due"] (C8.fnScope st__law_same) := C8.fnScope_by (by decide +kernel)
def ev__law_same (self : Fd) : S :=
 sSeq (sIf (tOr' (asT (eBin opIs (eV 1) (eC .none))) (tOr' (asT (eBin opIs (eV 1) (eC (.bool true)))) (asT (eBin opIs (eV 1) (eC (.bool false))))))
 (sRet (eOr (eAnd (eBin opIs (eV 1) (eC .none)) (eBin opIs (eV 0) (eC .none))) (eOr (eAnd (eBin opIs (eV 1) (eC (.bool true))) (eBin opIs (eV 0) (eC (.bool true)))) (eAnd (eBin opIs (eV 1) (eC (.bool false))) (eBin opIs (eV 0) (eC (.bool false)))))))
 (sNil))
 (sSeq (sIf (tTru (eUn (opIsa "int") (eV 1)))
 (sRet (eAnd (eUn (opIsa "int") (eV 0)) (eAnd (eNot (eUn (opIsa "bool") (eV 0))) (eBin opEq (eV 0) (eV 1)))))
 (sNil))
 (sSeq (sIf (tTru (eUn (opIsa "str") (eV 1)))
 (sRet (eAnd (eUn (opIsa "str") (eV 0)) (eBin opEq (eV 0) (eV 1))))
 (sNil))
 (sSeq (sIf (tTru (eUn (opIsa "dict") (eV 1)))
 (sSeq (sIf (tOr' (tNot' (tTru (eUn (opIsa "dict") (eV 0)))) (asT (eBin opNe (eUn opLen (eV 0)) (eUn opLen (eV 1)))))
 (sRet (eC (.bool false)))
 (sNil))
 (sSeq (sWith 1 (sFor (iN 1) (gNm 2)
 (sIf (tOr' (asT (eIn true (eV 2) (eV 0))) (tNot' (tTru (callF self (arCons (eSub (eV 0) (eV 2)) (arCons (eSub (eV 1) (eV 2)) (arNil)))))))
 (sRet (eC (.bool false)))
 (sNil))))
 (sRet (eC (.bool true)))))
 (sNil))
 (sSeq (sIf (tAnd' (tTru (eUn (opIsa "tuple") (eV 1))) (tNot' (tTru (eUn (opIsa "tuple") (eV 0)))))
 (sRet (eC (.bool false)))
 (sNil))
 (sSeq (sIf (tAnd' (tTru (eUn (opIsa "list") (eV 1))) (tNot' (tTru (eUn (opIsa "list") (eV 0)))))
 (sRet (eC (.bool false)))
 (sNil))
 (sSeq (sIf (asT (eBin opNe (eUn opLen (eV 0)) (eUn opLen (eV 1))))
 (sRet (eC (.bool false)))
 (sNil))
 (sSeq (sFor (iR1 (eUn opLen (eV 1))) (gNm 3)
 (sIf (tNot' (tTru (callF self (arCons (eSub (eV 0) (eV 3)) (arCons (eSub (eV 1) (eV 3)) (arNil))))))
 (sRet (eC (.bool false)))
 (sNil)))
 (sRet (eC (.bool true))))))))))
def fr__law_same : Nat → Fd
  | 0 => fun _ => none
  | n + 1 => fnF 2 4 (ev__law_same (fr__law_same n))
def fd__law_same : Fd := fr__law_same 9
theorem calr__law_same (B : Bl mg) (D : DefOk K mg "_law_same" st__law_same ["answer", "due"]) : ∀ n : Nat, C8.Cal P w K mg base (0 + n) "_law_same" (spF K (fr__law_same n)) []
  | 0 => cal_none D
  | n + 1 => by
    have c__law_same := calr__law_same B D n
    refine calF (k := 0 + n) D sc__law_same (fun g cdv A outer s H E hr => ?_) (by decide)
    have hu := roomRm hr
    have nd := sc__law_same.nd
    generalize fr__law_same n = self at *
    exact
     jss_cons (js_if (jt_w (jw_or (jt_cp (cr_is) (je_v 1) (je_non)) (jw_or (jt_cp (cr_is) (je_v 1) (je_bl)) (jw_or1 (jt_cp (cr_is) (je_v 1) (je_bl))))))
      (jss_one (js_ret (je_or (je_and (je_cp (cr_is) (je_v 1) (je_non)) (je_one (je_cp (cr_is) (je_v 0) (je_non)))) (je_or (je_and (je_cp (cr_is) (je_v 1) (je_bl)) (je_one (je_cp (cr_is) (je_v 0) (je_bl)))) (je_one (je_and (je_cp (cr_is) (je_v 1) (je_bl)) (je_one (je_cp (cr_is) (je_v 0) (je_bl)))))))))
      (jss_nil))
      (jss_cons (js_if (jt_tru (je_isa "int" B (je_v 1) B.int (by decide +kernel)))
      (jss_one (js_ret (je_and (je_isa "int" B (je_v 0) B.int (by decide +kernel)) (je_and (je_not (je_isa "bool" B (je_v 0) B.bool (by decide +kernel))) (je_one (je_cp (cr_eq hu) (je_v 0) (je_v 1)))))))
      (jss_nil))
      (jss_cons (js_if (jt_tru (je_isa "str" B (je_v 1) B.str (by decide +kernel)))
      (jss_one (js_ret (je_and (je_isa "str" B (je_v 0) B.str (by decide +kernel)) (je_one (je_cp (cr_eq hu) (je_v 0) (je_v 1))))))
      (jss_nil))
      (jss_cons (js_if (jt_tru (je_isa "dict" B (je_v 1) B.dict (by decide +kernel)))
      (jss_cons (js_if (jt_w (jw_or (jt_not (jt_tru (je_isa "dict" B (je_v 0) B.dict (by decide +kernel)))) (jw_or1 (jt_cp (cr_ne hu) (je_unB call_len4 ok_len B.len (je_v 0) boot_len) (je_unB call_len4 ok_len B.len (je_v 1) boot_len)))))
      (jss_one (js_ret (je_bl)))
      (jss_nil))
      (jss_cons (js_with (js_forG (itN 1) rfl PassesOwn.never (pi_N 1) (jg_nm 2 nd)
      (jss_one (js_if (jt_w (jw_or (jt_nin hu (je_v 2) (je_v 0)) (jw_or1 (jt_not (jt_tru (je_callF c__law_same hr (by omega) rfl (jar_cons (je_sub2 hu (je_v 0) (je_v 2)) (jar_cons (je_sub2 hu (je_v 1) (je_v 2)) (jar_nil)))))))))
      (jss_one (js_ret (je_bl)))
      (jss_nil)))))
      (jss_one (js_ret (je_bl)))))
      (jss_nil))
      (jss_cons (js_if (jt_w (jw_and (jt_tru (je_isa "tuple" B (je_v 1) B.tuple (by decide +kernel))) (jw_and1 (jt_not (jt_tru (je_isa "tuple" B (je_v 0) B.tuple (by decide +kernel)))))))
      (jss_one (js_ret (je_bl)))
      (jss_nil))
      (jss_cons (js_if (jt_w (jw_and (jt_tru (je_isa "list" B (je_v 1) B.list (by decide +kernel))) (jw_and1 (jt_not (jt_tru (je_isa "list" B (je_v 0) B.list (by decide +kernel)))))))
      (jss_one (js_ret (je_bl)))
      (jss_nil))
      (jss_cons (js_if (jt_cp (cr_ne hu) (je_unB call_len4 ok_len B.len (je_v 0) boot_len) (je_unB call_len4 ok_len B.len (je_v 1) boot_len))
      (jss_one (js_ret (je_bl)))
      (jss_nil))
      (jss_cons (js_for rfl PassesOwn.never (ji_r1 B (je_unB call_len4 ok_len B.len (je_v 1) boot_len)) (jg_nm 3 nd)
      (jss_one (js_if (jt_not (jt_tru (je_callF c__law_same hr (by omega) rfl (jar_cons (je_sub2 hu (je_v 0) (je_v 3)) (jar_cons (je_sub2 hu (je_v 1) (je_v 3)) (jar_nil))))))
      (jss_one (js_ret (je_bl)))
      (jss_nil))))
      (jss_one (js_ret (je_bl))))))))))
theorem cal__law_same (B : Bl mg) (D : DefOk K mg "_law_same" st__law_same ["answer", "due"]) : C8.Cal P w K mg base 9 "_law_same" (spF K fd__law_same) [] := calr__law_same B D 9
/-! ### _law_parting -/
abbrev st__law_parting : Stmt := topS 12
theorem sc__law_parting : FnScope ["pool", "most", "side", "width", "height", "squares", "k", "way", "x", "y", "one", "high", "grid"] ["pool", "most"] (C8.fnScope st__law_parting) := C8.fnScope_by (by decide +kernel)
def ev__law_parting : S :=
 sSeq (sAsg 2 (eBin opAdd (eC (.int 1)) (callW fd__law_draw (arCons (eV 0) (arCons (eC (.int 4)) (arNil))))))
 (sSeq (sAsg 3 (eV 2))
 (sSeq (sAsg 4 (eV 2))
 (sSeq (sAsg 5 (eList (adCons (eTup (adCons (eC (.int 0)) (adCons (eC (.int 0)) (adCons (eV 2) (adNil))))) (adNil))))
 (sSeq (sFor (iR1 (callW fd__law_draw (arCons (eV 0) (arCons (eV 1) (arNil))))) (gNm 6)
 (sSeq (sExpr (callW fd__law_next (arCons (eV 0) (arNil))))
 (sSeq (sAsg 7 (callW fd__law_draw (arCons (eV 0) (arCons (eC (.int 5)) (arNil)))))
 (sSeq (sIf (tAnd' (asT (eBin opEq (eV 7) (eC (.int 4)))) (tAnd' (asT (eBin opEq (eV 3) (eV 4))) (tAnd' (asT (eBin opGt (eV 3) (eC (.int 1)))) (asT (eBin opGt (eUn opLen (eV 5)) (eC (.int 1)))))))
 (sBreak)
 (sNil))
 (sIf (asT (eBin opLt (eBin opMax2 (eV 3) (eV 4)) (eC (.int 30))))
 (sIf (asT (eBin opEq (eV 7) (eC (.int 0))))
 (sSeq (sExpr (mOwn mAppend (eV 5) (adCons (eTup (adCons (eV 3) (adCons (eC (.int 0)) (adCons (eV 4) (adNil))))) (adNil))))
 (sAsg 3 (eBin opAdd (eV 3) (eV 4))))
 (sIf (asT (eBin opEq (eV 7) (eC (.int 1))))
 (sSeq (sExpr (mOwn mAppend (eV 5) (adCons (eTup (adCons (eC (.int 0)) (adCons (eV 4) (adCons (eV 3) (adNil))))) (adNil))))
 (sAsg 4 (eBin opAdd (eV 4) (eV 3))))
 (sIf (asT (eBin opEq (eV 7) (eC (.int 2))))
 (sSeq (sAsg 5 (eBin opAdd (eWith 5 (eComp (iN 5) (gTp 3 (gsCons (gNm 8) (gsCons (gNm 9) (gsCons (gNm 10) (gsNil))))) (tYes') (eTup (adCons (eBin opAdd (eV 8) (eV 4)) (adCons (eV 9) (adCons (eV 10) (adNil))))) [8, 9, 10])) (eList (adCons (eTup (adCons (eC (.int 0)) (adCons (eC (.int 0)) (adCons (eV 4) (adNil))))) (adNil)))))
 (sAsg 3 (eBin opAdd (eV 3) (eV 4))))
 (sSeq (sAsg 5 (eBin opAdd (eWith 5 (eComp (iN 5) (gTp 3 (gsCons (gNm 8) (gsCons (gNm 9) (gsCons (gNm 10) (gsNil))))) (tYes') (eTup (adCons (eV 8) (adCons (eBin opAdd (eV 9) (eV 3)) (adCons (eV 10) (adNil))))) [8, 9, 10])) (eList (adCons (eTup (adCons (eC (.int 0)) (adCons (eC (.int 0)) (adCons (eV 3) (adNil))))) (adNil)))))
 (sAsg 4 (eBin opAdd (eV 4) (eV 3)))))))
 (sNil))))))
 (sSeq (sIf (asT (eBin opEq (callW fd__law_draw (arCons (eV 0) (arCons (eC (.int 6)) (arNil)))) (eC (.int 0))))
 (sRet (eTup (adCons (eC (.int 33)) (adCons (eC (.int 32)) (adCons (eList (adCons (eTup (adCons (eC (.int 0)) (adCons (eC (.int 0)) (adCons (eC (.int 18)) (adNil))))) (adCons (eTup (adCons (eC (.int 18)) (adCons (eC (.int 0)) (adCons (eC (.int 15)) (adNil))))) (adCons (eTup (adCons (eC (.int 18)) (adCons (eC (.int 15)) (adCons (eC (.int 7)) (adNil))))) (adCons (eTup (adCons (eC (.int 25)) (adCons (eC (.int 15)) (adCons (eC (.int 8)) (adNil))))) (adCons (eTup (adCons (eC (.int 0)) (adCons (eC (.int 18)) (adCons (eC (.int 14)) (adNil))))) (adCons (eTup (adCons (eC (.int 14)) (adCons (eC (.int 18)) (adCons (eC (.int 4)) (adNil))))) (adCons (eTup (adCons (eC (.int 14)) (adCons (eC (.int 22)) (adCons (eC (.int 10)) (adNil))))) (adCons (eTup (adCons (eC (.int 24)) (adCons (eC (.int 22)) (adCons (eC (.int 1)) (adNil))))) (adCons (eTup (adCons (eC (.int 24)) (adCons (eC (.int 23)) (adCons (eC (.int 9)) (adNil))))) (adNil))))))))))) (adNil))))))
 (sNil))
 (sSeq (sIf (asT (eBin opEq (callW fd__law_draw (arCons (eV 0) (arCons (eC (.int 5)) (arNil)))) (eC (.int 0))))
 (sRet (eTup (adCons (eC (.int 3)) (adCons (eC (.int 2)) (adCons (eList (adCons (eTup (adCons (eC (.int 0)) (adCons (eC (.int 0)) (adCons (eC (.int 2)) (adNil))))) (adCons (eTup (adCons (eC (.int 2)) (adCons (eC (.int 0)) (adCons (eC (.int 1)) (adNil))))) (adCons (eTup (adCons (eC (.int 2)) (adCons (eC (.int 1)) (adCons (eC (.int 1)) (adNil))))) (adNil))))) (adNil))))))
 (sNil))
 (sSeq (sIf (asT (eBin opEq (callW fd__law_draw (arCons (eV 0) (arCons (eC (.int 6)) (arNil)))) (eC (.int 0))))
 (sSeq (sAsg 11 (eBin opAdd (eC (.int 2)) (callW fd__law_draw (arCons (eV 0) (arCons (eC (.int 2)) (arNil))))))
 (sSeq (sAsg 12 (eList (adNil)))
 (sSeq (sFor (iR1 (eC (.int 3))) (gNm 8)
 (sAsg 12 (eBin opAdd (eV 12) (eComp (iR1 (eV 11)) (gNm 9) (tYes') (eTup (adCons (eBin opMul (eC (.int 2)) (eV 8)) (adCons (eBin opMul (eC (.int 2)) (eV 9)) (adCons (eC (.int 2)) (adNil))))) [9]))))
 (sRet (eTup (adCons (eC (.int 6)) (adCons (eBin opMul (eC (.int 2)) (eV 11)) (adCons (eV 12) (adNil)))))))))
 (sNil))
 (sRet (eTup (adCons (eV 3) (adCons (eV 4) (adCons (eUn opSortedK (eV 5)) (adNil)))))))))))))
def fd__law_parting : Fd := fnW 2 13 ev__law_parting
theorem bo__law_parting (B : Bl mg) (D : DefOk K mg "_law_parting" st__law_parting ["pool", "most"]) (c__law_draw : C8.Cal P w K mg base 3 "_law_draw" (spW K fd__law_draw) []) (c__law_next : C8.Cal P w K mg base 3 "_law_next" (spW K fd__law_next) []) : BodyOk P w K mg base 3 "_law_parting" st__law_parting ["pool", "most", "side", "width", "height", "squares", "k", "way", "x", "y", "one", "high", "grid"] ev__law_parting := by
  intro g cdv A outer s H E hr
  have hu := roomRm hr
  have nd := sc__law_parting.nd
  exact
   jss_cons (js_asg (i := 2) nd (je_add (je_int) (je_callW c__law_draw hr (by decide) rfl (jar_cons (je_v 0) (jar_cons (je_int) (jar_nil))))))
    (jss_cons (js_asg (i := 3) nd (je_v 2))
    (jss_cons (js_asg (i := 4) nd (je_v 2))
    (jss_cons (js_asg (i := 5) nd (je_list (jad_cons (je_tup (jad_cons (je_int) (jad_cons (je_int) (jad_cons (je_v 2) (jad_nil))))) (jad_nil))))
    (jss_cons (js_for rfl PassesOwn.never (ji_r1 B (je_callW c__law_draw hr (by decide) rfl (jar_cons (je_v 0) (jar_cons (je_v 1) (jar_nil))))) (jg_nm 6 nd)
    (jss_cons (js_expr (je_callW c__law_next hr (by decide) rfl (jar_cons (je_v 0) (jar_nil))))
    (jss_cons (js_asg (i := 7) nd (je_callW c__law_draw hr (by decide) rfl (jar_cons (je_v 0) (jar_cons (je_int) (jar_nil)))))
    (jss_cons (js_if (jt_w (jw_and (jt_cp (cr_eq hu) (je_v 7) (je_int)) (jw_and (jt_cp (cr_eq hu) (je_v 3) (je_v 4)) (jw_and (jt_cp (cr_gt hu) (je_v 3) (je_int)) (jw_and1 (jt_cp (cr_gt hu) (je_unB call_len4 ok_len B.len (je_v 5) boot_len) (je_int)))))))
    (jss_one (js_break))
    (jss_nil))
    (jss_one (js_if (jt_cp (cr_lt hu) (je_max2 rfl B (je_v 3) (je_v 4)) (je_int))
    (jss_one (js_if (jt_cp (cr_eq hu) (je_v 7) (je_int))
    (jss_cons (js_expr (je_append (je_v 5) (jad_cons (je_tup (jad_cons (je_v 3) (jad_cons (je_int) (jad_cons (je_v 4) (jad_nil))))) (jad_nil))))
    (jss_one (js_asg (i := 3) nd (je_add (je_v 3) (je_v 4)))))
    (jss_one (js_if (jt_cp (cr_eq hu) (je_v 7) (je_int))
    (jss_cons (js_expr (je_append (je_v 5) (jad_cons (je_tup (jad_cons (je_int) (jad_cons (je_v 4) (jad_cons (je_v 3) (jad_nil))))) (jad_nil))))
    (jss_one (js_asg (i := 4) nd (je_add (je_v 4) (je_v 3)))))
    (jss_one (js_if (jt_cp (cr_eq hu) (je_v 7) (je_int))
    (jss_cons (js_asg (i := 5) nd (je_add (je_with (je_compG (h := itN 5) (own := [("x", 8), ("y", 9), ("one", 10)]) rfl nd (pi_N 5) (blkOk_by (by kernel_rfl)) (fun _ _ _ _ _ => jg_tup rfl (jgs_cons (jg_nm 8 nd) (jgs_cons (jg_nm 9 nd) (jgs_cons (jg_nm 10 nd) (jgs_nil))))) (fun _ _ _ _ _ => jts_nil) (fun _ _ _ _ _ => je_tup (jad_cons (je_add (je_v 8) (je_v 4)) (jad_cons (je_v 9) (jad_cons (je_v 10) (jad_nil))))))) (je_list (jad_cons (je_tup (jad_cons (je_int) (jad_cons (je_int) (jad_cons (je_v 4) (jad_nil))))) (jad_nil)))))
    (jss_one (js_asg (i := 3) nd (je_add (je_v 3) (je_v 4)))))
    (jss_cons (js_asg (i := 5) nd (je_add (je_with (je_compG (h := itN 5) (own := [("x", 8), ("y", 9), ("one", 10)]) rfl nd (pi_N 5) (blkOk_by (by kernel_rfl)) (fun _ _ _ _ _ => jg_tup rfl (jgs_cons (jg_nm 8 nd) (jgs_cons (jg_nm 9 nd) (jgs_cons (jg_nm 10 nd) (jgs_nil))))) (fun _ _ _ _ _ => jts_nil) (fun _ _ _ _ _ => je_tup (jad_cons (je_v 8) (jad_cons (je_add (je_v 9) (je_v 3)) (jad_cons (je_v 10) (jad_nil))))))) (je_list (jad_cons (je_tup (jad_cons (je_int) (jad_cons (je_int) (jad_cons (je_v 3) (jad_nil))))) (jad_nil)))))
    (jss_one (js_asg (i := 4) nd (je_add (je_v 4) (je_v 3)))))))))))
    (jss_nil)))))))
    (jss_cons (js_if (jt_cp (cr_eq hu) (je_callW c__law_draw hr (by decide) rfl (jar_cons (je_v 0) (jar_cons (je_int) (jar_nil)))) (je_int))
    (jss_one (js_ret (je_tup (jad_cons (je_int) (jad_cons (je_int) (jad_cons (je_list (jad_cons (je_tup (jad_cons (je_int) (jad_cons (je_int) (jad_cons (je_int) (jad_nil))))) (jad_cons (je_tup (jad_cons (je_int) (jad_cons (je_int) (jad_cons (je_int) (jad_nil))))) (jad_cons (je_tup (jad_cons (je_int) (jad_cons (je_int) (jad_cons (je_int) (jad_nil))))) (jad_cons (je_tup (jad_cons (je_int) (jad_cons (je_int) (jad_cons (je_int) (jad_nil))))) (jad_cons (je_tup (jad_cons (je_int) (jad_cons (je_int) (jad_cons (je_int) (jad_nil))))) (jad_cons (je_tup (jad_cons (je_int) (jad_cons (je_int) (jad_cons (je_int) (jad_nil))))) (jad_cons (je_tup (jad_cons (je_int) (jad_cons (je_int) (jad_cons (je_int) (jad_nil))))) (jad_cons (je_tup (jad_cons (je_int) (jad_cons (je_int) (jad_cons (je_int) (jad_nil))))) (jad_cons (je_tup (jad_cons (je_int) (jad_cons (je_int) (jad_cons (je_int) (jad_nil))))) (jad_nil))))))))))) (jad_nil)))))))
    (jss_nil))
    (jss_cons (js_if (jt_cp (cr_eq hu) (je_callW c__law_draw hr (by decide) rfl (jar_cons (je_v 0) (jar_cons (je_int) (jar_nil)))) (je_int))
    (jss_one (js_ret (je_tup (jad_cons (je_int) (jad_cons (je_int) (jad_cons (je_list (jad_cons (je_tup (jad_cons (je_int) (jad_cons (je_int) (jad_cons (je_int) (jad_nil))))) (jad_cons (je_tup (jad_cons (je_int) (jad_cons (je_int) (jad_cons (je_int) (jad_nil))))) (jad_cons (je_tup (jad_cons (je_int) (jad_cons (je_int) (jad_cons (je_int) (jad_nil))))) (jad_nil))))) (jad_nil)))))))
    (jss_nil))
    (jss_cons (js_if (jt_cp (cr_eq hu) (je_callW c__law_draw hr (by decide) rfl (jar_cons (je_v 0) (jar_cons (je_int) (jar_nil)))) (je_int))
    (jss_cons (js_asg (i := 11) nd (je_add (je_int) (je_callW c__law_draw hr (by decide) rfl (jar_cons (je_v 0) (jar_cons (je_int) (jar_nil))))))
    (jss_cons (js_asg (i := 12) nd (je_list (jad_nil)))
    (jss_cons (js_for rfl PassesOwn.never (ji_r1 B (je_int)) (jg_nm 8 nd)
    (jss_one (js_asg (i := 12) nd (je_add (je_v 12) (je_comp (own := [("y", 9)]) rfl nd (ji_r1 B (je_v 11)) (blkOk_by (by kernel_rfl)) (fun _ _ _ _ _ => jg_nm 9 nd) (fun _ _ _ _ _ => jts_nil) (fun _ _ _ _ _ => je_tup (jad_cons (je_mul (je_int) (je_v 8)) (jad_cons (je_mul (je_int) (je_v 9)) (jad_cons (je_int) (jad_nil))))))))))
    (jss_one (js_ret (je_tup (jad_cons (je_int) (jad_cons (je_mul (je_int) (je_v 11)) (jad_cons (je_v 12) (jad_nil))))))))))
    (jss_nil))
    (jss_one (js_ret (je_tup (jad_cons (je_v 3) (jad_cons (je_v 4) (jad_cons (je_unB (cr_sortedK hu rfl) ok_sortedK B.sorted (je_v 5) (by decide +kernel)) (jad_nil))))))))))))))
theorem cal__law_parting (B : Bl mg) (D : DefOk K mg "_law_parting" st__law_parting ["pool", "most"]) (c__law_draw : C8.Cal P w K mg base 3 "_law_draw" (spW K fd__law_draw) []) (c__law_next : C8.Cal P w K mg base 3 "_law_next" (spW K fd__law_next) []) : C8.Cal P w K mg base 4 "_law_parting" (spW K fd__law_parting) [] := calW (k := 3) D sc__law_parting (bo__law_parting B D c__law_draw c__law_next) (by decide)
/-! ### _law_turned_parting -/
abbrev st__law_turned_parting : Stmt := topS 13
theorem sc__law_turned_parting : FnScope ["pool", "width", "height", "squares", "way", "x", "y", "side"] ["pool", "width", "height", "squares"] (C8.fnScope st__law_turned_parting) := C8.fnScope_by (by decide +kernel)
def ev__law_turned_parting : S :=
 sSeq (sAsg 4 (callW fd__law_draw (arCons (eV 0) (arCons (eC (.int 4)) (arNil)))))
 (sSeq (sIf (asT (eBin opEq (eV 4) (eC (.int 0))))
 (sRet (eUn opSortedK (eWith 3 (eComp (iN 3) (gTp 3 (gsCons (gNm 5) (gsCons (gNm 6) (gsCons (gNm 7) (gsNil))))) (tYes') (eTup (adCons (eBin opSub (eBin opSub (eV 1) (eV 5)) (eV 7)) (adCons (eV 6) (adCons (eV 7) (adNil))))) [5, 6, 7]))))
 (sNil))
 (sSeq (sIf (asT (eBin opEq (eV 4) (eC (.int 1))))
 (sRet (eUn opSortedK (eWith 3 (eComp (iN 3) (gTp 3 (gsCons (gNm 5) (gsCons (gNm 6) (gsCons (gNm 7) (gsNil))))) (tYes') (eTup (adCons (eV 5) (adCons (eBin opSub (eBin opSub (eV 2) (eV 6)) (eV 7)) (adCons (eV 7) (adNil))))) [5, 6, 7]))))
 (sNil))
 (sSeq (sIf (asT (eBin opEq (eV 4) (eC (.int 2))))
 (sRet (eUn opSortedK (eWith 3 (eComp (iN 3) (gTp 3 (gsCons (gNm 5) (gsCons (gNm 6) (gsCons (gNm 7) (gsNil))))) (tYes') (eTup (adCons (eBin opSub (eBin opSub (eV 1) (eV 5)) (eV 7)) (adCons (eBin opSub (eBin opSub (eV 2) (eV 6)) (eV 7)) (adCons (eV 7) (adNil))))) [5, 6, 7]))))
 (sNil))
 (sRet (eUn opSortedK (eV 3))))))
def fd__law_turned_parting : Fd := fnW 4 8 ev__law_turned_parting
theorem bo__law_turned_parting (B : Bl mg) (D : DefOk K mg "_law_turned_parting" st__law_turned_parting ["pool", "width", "height", "squares"]) (c__law_draw : C8.Cal P w K mg base 3 "_law_draw" (spW K fd__law_draw) []) : BodyOk P w K mg base 3 "_law_turned_parting" st__law_turned_parting ["pool", "width", "height", "squares", "way", "x", "y", "side"] ev__law_turned_parting := by
  intro g cdv A outer s H E hr
  have hu := roomRm hr
  have nd := sc__law_turned_parting.nd
  exact
   jss_cons (js_asg (i := 4) nd (je_callW c__law_draw hr (by decide) rfl (jar_cons (je_v 0) (jar_cons (je_int) (jar_nil)))))
    (jss_cons (js_if (jt_cp (cr_eq hu) (je_v 4) (je_int))
    (jss_one (js_ret (je_unB (cr_sortedK hu rfl) ok_sortedK B.sorted (je_with (je_compG (h := itN 3) (own := [("x", 5), ("y", 6), ("side", 7)]) rfl nd (pi_N 3) (blkOk_by (by kernel_rfl)) (fun _ _ _ _ _ => jg_tup rfl (jgs_cons (jg_nm 5 nd) (jgs_cons (jg_nm 6 nd) (jgs_cons (jg_nm 7 nd) (jgs_nil))))) (fun _ _ _ _ _ => jts_nil) (fun _ _ _ _ _ => je_tup (jad_cons (je_sub (je_sub (je_v 1) (je_v 5)) (je_v 7)) (jad_cons (je_v 6) (jad_cons (je_v 7) (jad_nil))))))) (by decide +kernel))))
    (jss_nil))
    (jss_cons (js_if (jt_cp (cr_eq hu) (je_v 4) (je_int))
    (jss_one (js_ret (je_unB (cr_sortedK hu rfl) ok_sortedK B.sorted (je_with (je_compG (h := itN 3) (own := [("x", 5), ("y", 6), ("side", 7)]) rfl nd (pi_N 3) (blkOk_by (by kernel_rfl)) (fun _ _ _ _ _ => jg_tup rfl (jgs_cons (jg_nm 5 nd) (jgs_cons (jg_nm 6 nd) (jgs_cons (jg_nm 7 nd) (jgs_nil))))) (fun _ _ _ _ _ => jts_nil) (fun _ _ _ _ _ => je_tup (jad_cons (je_v 5) (jad_cons (je_sub (je_sub (je_v 2) (je_v 6)) (je_v 7)) (jad_cons (je_v 7) (jad_nil))))))) (by decide +kernel))))
    (jss_nil))
    (jss_cons (js_if (jt_cp (cr_eq hu) (je_v 4) (je_int))
    (jss_one (js_ret (je_unB (cr_sortedK hu rfl) ok_sortedK B.sorted (je_with (je_compG (h := itN 3) (own := [("x", 5), ("y", 6), ("side", 7)]) rfl nd (pi_N 3) (blkOk_by (by kernel_rfl)) (fun _ _ _ _ _ => jg_tup rfl (jgs_cons (jg_nm 5 nd) (jgs_cons (jg_nm 6 nd) (jgs_cons (jg_nm 7 nd) (jgs_nil))))) (fun _ _ _ _ _ => jts_nil) (fun _ _ _ _ _ => je_tup (jad_cons (je_sub (je_sub (je_v 1) (je_v 5)) (je_v 7)) (jad_cons (je_sub (je_sub (je_v 2) (je_v 6)) (je_v 7)) (jad_cons (je_v 7) (jad_nil))))))) (by decide +kernel))))
    (jss_nil))
    (jss_one (js_ret (je_unB (cr_sortedK hu rfl) ok_sortedK B.sorted (je_v 3) (by decide +kernel)))))))
theorem cal__law_turned_parting (B : Bl mg) (D : DefOk K mg "_law_turned_parting" st__law_turned_parting ["pool", "width", "height", "squares"]) (c__law_draw : C8.Cal P w K mg base 3 "_law_draw" (spW K fd__law_draw) []) : C8.Cal P w K mg base 4 "_law_turned_parting" (spW K fd__law_turned_parting) [] := calW (k := 3) D sc__law_turned_parting (bo__law_turned_parting B D c__law_draw) (by decide)
/-! ### _law_first_within -/
abbrev st__law_first_within : Stmt := topS 14
theorem sc__law_first_within : FnScope ["width", "height", "squares", "across", "x", "y", "side", "up", "right", "low", "some", "one", "area"] ["width", "height", "squares"] (C8.fnScope st__law_first_within) := C8.fnScope_by (by decide +kernel)
def ev__law_first_within : S :=
 sSeq (sAsg 3 (eUn opSortedK (eBin opAdd (eList (adCons (eC (.int 0)) (adCons (eV 0) (adNil)))) (eWith 2 (eComp (iN 2) (gTp 3 (gsCons (gNm 4) (gsCons (gNm 5) (gsCons (gNm 6) (gsNil))))) (tYes') (eV 4) [4, 5, 6])))))
 (sSeq (sAsg 7 (eUn opSortedK (eBin opAdd (eList (adCons (eC (.int 0)) (adCons (eV 1) (adNil)))) (eWith 2 (eComp (iN 2) (gTp 3 (gsCons (gNm 4) (gsCons (gNm 5) (gsCons (gNm 6) (gsNil))))) (tYes') (eV 5) [4, 5, 6])))))
 (sSeq (sWith 3 (sFor (iN 3) (gNm 4)
 (sWith 7 (sFor (iN 7) (gNm 5)
 (sWith 3 (sFor (iN 3) (gNm 8)
 (sWith 7 (sFor (iN 7) (gNm 9)
 (sSeq (sWith 2 (sAsg 10 (eComp (iN 2) (gNm 11) (tAnd' (asT (eBin opLe (eV 4) (eSub (eV 11) (eC (.int 0))))) (tAnd' (asT (eBin opLe (eV 5) (eSub (eV 11) (eC (.int 1))))) (tAnd' (asT (eBin opLe (eBin opAdd (eSub (eV 11) (eC (.int 0))) (eSub (eV 11) (eC (.int 2)))) (eV 8))) (asT (eBin opLe (eBin opAdd (eSub (eV 11) (eC (.int 1))) (eSub (eV 11) (eC (.int 2)))) (eV 9)))))) (eV 11) [11])))
 (sSeq (sAsg 12 (eUn opSum (eWith 10 (eComp (iN 10) (gNm 11) (tYes') (eBin opMul (eSub (eV 11) (eC (.int 2))) (eSub (eV 11) (eC (.int 2)))) [11]))))
 (sIf (tAnd' (asT (eBin opGt (eV 8) (eV 4))) (tAnd' (asT (eBin opGt (eV 9) (eV 5))) (tAnd' (asT (eCh opLt opLt (eC (.int 1)) (eUn opLen (eV 10)) (eUn opLen (eV 2)))) (asT (eBin opEq (eV 12) (eBin opMul (eBin opSub (eV 8) (eV 4)) (eBin opSub (eV 9) (eV 5))))))))
 (sRet (eTup (adCons (eV 4) (adCons (eV 5) (adCons (eBin opSub (eV 8) (eV 4)) (adCons (eBin opSub (eV 9) (eV 5)) (adNil)))))))
 (sNil))))))))))))
 (sRet (eC .none))))
def fd__law_first_within : Fd := fnF 3 13 ev__law_first_within
theorem bo__law_first_within (B : Bl mg) (D : DefOk K mg "_law_first_within" st__law_first_within ["width", "height", "squares"]) : BodyOk P w K mg base 0 "_law_first_within" st__law_first_within ["width", "height", "squares", "across", "x", "y", "side", "up", "right", "low", "some", "one", "area"] ev__law_first_within := by
  intro g cdv A outer s H E hr
  have hu := roomRm hr
  have nd := sc__law_first_within.nd
  exact
   jss_cons (js_asg (i := 3) nd (je_unB (cr_sortedK hu rfl) ok_sortedK B.sorted (je_add (je_list (jad_cons (je_int) (jad_cons (je_v 0) (jad_nil)))) (je_with (je_compG (h := itN 2) (own := [("x", 4), ("y", 5), ("side", 6)]) rfl nd (pi_N 2) (blkOk_by (by kernel_rfl)) (fun _ _ _ _ _ => jg_tup rfl (jgs_cons (jg_nm 4 nd) (jgs_cons (jg_nm 5 nd) (jgs_cons (jg_nm 6 nd) (jgs_nil))))) (fun _ _ _ _ _ => jts_nil) (fun _ _ _ _ _ => je_v 4)))) (by decide +kernel)))
    (jss_cons (js_asg (i := 7) nd (je_unB (cr_sortedK hu rfl) ok_sortedK B.sorted (je_add (je_list (jad_cons (je_int) (jad_cons (je_v 1) (jad_nil)))) (je_with (je_compG (h := itN 2) (own := [("x", 4), ("y", 5), ("side", 6)]) rfl nd (pi_N 2) (blkOk_by (by kernel_rfl)) (fun _ _ _ _ _ => jg_tup rfl (jgs_cons (jg_nm 4 nd) (jgs_cons (jg_nm 5 nd) (jgs_cons (jg_nm 6 nd) (jgs_nil))))) (fun _ _ _ _ _ => jts_nil) (fun _ _ _ _ _ => je_v 5)))) (by decide +kernel)))
    (jss_cons (js_with (js_forG (itN 3) rfl PassesOwn.never (pi_N 3) (jg_nm 4 nd)
    (jss_one (js_with (js_forG (itN 7) rfl PassesOwn.never (pi_N 7) (jg_nm 5 nd)
    (jss_one (js_with (js_forG (itN 3) rfl PassesOwn.never (pi_N 3) (jg_nm 8 nd)
    (jss_one (js_with (js_forG (itN 7) rfl PassesOwn.never (pi_N 7) (jg_nm 9 nd)
    (jss_cons (js_with (js_setCompG (i := 10) (h := itN 2) (own := [("one", 11)]) rfl nd (pi_N 2) (blkOk_by (by kernel_rfl)) (fun _ _ _ _ _ => jg_nm 11 nd) (fun _ _ _ _ _ => jts_one (jt_w (jw_and (jt_cp (cr_le hu) (je_v 4) (je_sub2 hu (je_v 11) (je_int))) (jw_and (jt_cp (cr_le hu) (je_v 5) (je_sub2 hu (je_v 11) (je_int))) (jw_and (jt_cp (cr_le hu) (je_add (je_sub2 hu (je_v 11) (je_int)) (je_sub2 hu (je_v 11) (je_int))) (je_v 8)) (jw_and1 (jt_cp (cr_le hu) (je_add (je_sub2 hu (je_v 11) (je_int)) (je_sub2 hu (je_v 11) (je_int))) (je_v 9)))))))) (fun _ _ _ _ _ => je_v 11)))
    (jss_cons (js_asg (i := 12) nd (je_unB (cr_sum rfl) ok_sum B.sum (je_with (je_compG (h := itN 10) (own := [("one", 11)]) rfl nd (pi_N 10) (blkOk_by (by kernel_rfl)) (fun _ _ _ _ _ => jg_nm 11 nd) (fun _ _ _ _ _ => jts_nil) (fun _ _ _ _ _ => je_mul (je_sub2 hu (je_v 11) (je_int)) (je_sub2 hu (je_v 11) (je_int))))) (by decide +kernel)))
    (jss_one (js_if (jt_w (jw_and (jt_cp (cr_gt hu) (je_v 8) (je_v 4)) (jw_and (jt_cp (cr_gt hu) (je_v 9) (je_v 5)) (jw_and (jt_ch (cr_lt hu) (cr_lt hu) (je_int) (je_unB call_len4 ok_len B.len (je_v 10) boot_len) (je_unB call_len4 ok_len B.len (je_v 2) boot_len)) (jw_and1 (jt_cp (cr_eq hu) (je_v 12) (je_mul (je_sub (je_v 8) (je_v 4)) (je_sub (je_v 9) (je_v 5)))))))))
    (jss_one (js_ret (je_tup (jad_cons (je_v 4) (jad_cons (je_v 5) (jad_cons (je_sub (je_v 8) (je_v 4)) (jad_cons (je_sub (je_v 9) (je_v 5)) (jad_nil))))))))
    (jss_nil))))))))))))))))
    (jss_one (js_ret (je_non)))))
theorem cal__law_first_within (B : Bl mg) (D : DefOk K mg "_law_first_within" st__law_first_within ["width", "height", "squares"]) : C8.Cal P w K mg base 1 "_law_first_within" (spF K fd__law_first_within) [] := calF (k := 0) D sc__law_first_within (bo__law_first_within B D) (by decide)
/-! ### law -/
abbrev st_law : Stmt := topS 15
theorem sc_law : FnScope ["script", "pool", "width", "height", "squares", "sides", "x", "y", "side", "perfect", "k", "known"] ["script"] (C8.fnScope st_law) := C8.fnScope_by (by decide +kernel)
def ev_law : S :=
 sSeq (sAsg 1 (callF fd__law_pool (arCons (eV 0) (arNil))))
 (sSeq (sAsgT (callW fd__law_parting (arCons (eV 1) (arCons (eC (.int 7)) (arNil)))) (gTp 3 (gsCons (gNm 2) (gsCons (gNm 3) (gsCons (gNm 4) (gsNil))))))
 (sSeq (sAsg 4 (callW fd__law_turned_parting (arCons (eV 1) (arCons (eV 2) (arCons (eV 3) (arCons (eV 4) (arNil)))))))
 (sSeq (sAsg 5 (eWith 4 (eComp (iN 4) (gTp 3 (gsCons (gNm 6) (gsCons (gNm 7) (gsCons (gNm 8) (gsNil))))) (tYes') (eV 8) [6, 7, 8])))
 (sSeq (sAsg 9 (eBin opEq (eUn opLen (eComp (iR1 (eUn opLen (eV 5))) (gNm 10) (asT (eIn false (eSub (eV 5) (eV 10)) (eSlice (eV 5) (oNone) (oSome (eV 10))))) (eV 10) [10])) (eC (.int 0))))
 (sSeq (sIf (tNot' (tTru (callF fd__law_same (arCons (callF fd_is_perfect (arCons (eUn opList (eV 4)) (arNil))) (arCons (eV 9) (arNil))))))
 (sRet (eC (.bool false)))
 (sNil))
 (sSeq (sIf (tNot' (tTru (callF fd__law_same (arCons (callF fd_inner_rectangle (arCons (eV 2) (arCons (eV 3) (arCons (eUn opList (eV 4)) (arNil))))) (arCons (callF fd__law_first_within (arCons (eV 2) (arCons (eV 3) (arCons (eV 4) (arNil))))) (arNil))))))
 (sRet (eC (.bool false)))
 (sNil))
 (sSeq (sAsg 11 (eList (adCons (eTup (adCons (eC (.int 0)) (adCons (eC (.int 0)) (adCons (eC (.int 18)) (adNil))))) (adCons (eTup (adCons (eC (.int 18)) (adCons (eC (.int 0)) (adCons (eC (.int 15)) (adNil))))) (adCons (eTup (adCons (eC (.int 18)) (adCons (eC (.int 15)) (adCons (eC (.int 7)) (adNil))))) (adCons (eTup (adCons (eC (.int 25)) (adCons (eC (.int 15)) (adCons (eC (.int 8)) (adNil))))) (adCons (eTup (adCons (eC (.int 0)) (adCons (eC (.int 18)) (adCons (eC (.int 14)) (adNil))))) (adCons (eTup (adCons (eC (.int 14)) (adCons (eC (.int 18)) (adCons (eC (.int 4)) (adNil))))) (adCons (eTup (adCons (eC (.int 14)) (adCons (eC (.int 22)) (adCons (eC (.int 10)) (adNil))))) (adCons (eTup (adCons (eC (.int 24)) (adCons (eC (.int 22)) (adCons (eC (.int 1)) (adNil))))) (adCons (eTup (adCons (eC (.int 24)) (adCons (eC (.int 23)) (adCons (eC (.int 9)) (adNil))))) (adNil))))))))))))
 (sSeq (sIf (tOr' (asT (eBin opIsn (callF fd_is_parting (arCons (eC (.int 33)) (arCons (eC (.int 32)) (arCons (eUn opList (eV 11)) (arNil))))) (eC (.bool true)))) (asT (eBin opIsn (callF fd_is_perfect (arCons (eUn opList (eV 11)) (arNil))) (eC (.bool true)))))
 (sRet (eC (.bool false)))
 (sNil))
 (sRet (eBin opIs (callF fd_inner_rectangle (arCons (eC (.int 33)) (arCons (eC (.int 32)) (arCons (eUn opList (eV 11)) (arNil))))) (eC .none)))))))))))
def fd_law : Fd := fnF 1 12 ev_law
theorem bo_law (B : Bl mg) (D : DefOk K mg "law" st_law ["script"]) (c__law_first_within : C8.Cal P w K mg base 1 "_law_first_within" (spF K fd__law_first_within) []) (c__law_parting : C8.Cal P w K mg base 4 "_law_parting" (spW K fd__law_parting) []) (c__law_pool : C8.Cal P w K mg base 3 "_law_pool" (spF K fd__law_pool) []) (c__law_same : C8.Cal P w K mg base 9 "_law_same" (spF K fd__law_same) []) (c__law_turned_parting : C8.Cal P w K mg base 4 "_law_turned_parting" (spW K fd__law_turned_parting) []) (c_inner_rectangle : C8.Cal P w K mg base 2 "inner_rectangle" (spF K fd_inner_rectangle) []) (c_is_parting : C8.Cal P w K mg base 1 "is_parting" (spF K fd_is_parting) []) (c_is_perfect : C8.Cal P w K mg base 1 "is_perfect" (spF K fd_is_perfect) []) : BodyOk P w K mg base 9 "law" st_law ["script", "pool", "width", "height", "squares", "sides", "x", "y", "side", "perfect", "k", "known"] ev_law := by
  intro g cdv A outer s H E hr
  have hu := roomRm hr
  have nd := sc_law.nd
  exact
   jss_cons (js_asg (i := 1) nd (je_callF c__law_pool hr (by decide) rfl (jar_cons (je_v 0) (jar_nil))))
    (jss_cons (js_asgT (je_callW c__law_parting hr (by decide) rfl (jar_cons (je_v 1) (jar_cons (je_int) (jar_nil)))) (jg_tup rfl (jgs_cons (jg_nm 2 nd) (jgs_cons (jg_nm 3 nd) (jgs_cons (jg_nm 4 nd) (jgs_nil))))))
    (jss_cons (js_asg (i := 4) nd (je_callW c__law_turned_parting hr (by decide) rfl (jar_cons (je_v 1) (jar_cons (je_v 2) (jar_cons (je_v 3) (jar_cons (je_v 4) (jar_nil)))))))
    (jss_cons (js_asg (i := 5) nd (je_with (je_compG (h := itN 4) (own := [("x", 6), ("y", 7), ("side", 8)]) rfl nd (pi_N 4) (blkOk_by (by kernel_rfl)) (fun _ _ _ _ _ => jg_tup rfl (jgs_cons (jg_nm 6 nd) (jgs_cons (jg_nm 7 nd) (jgs_cons (jg_nm 8 nd) (jgs_nil))))) (fun _ _ _ _ _ => jts_nil) (fun _ _ _ _ _ => je_v 8))))
    (jss_cons (js_asg (i := 9) nd (je_cp (cr_eq hu) (je_unB call_len4 ok_len B.len (je_comp (own := [("k", 10)]) rfl nd (ji_r1 B (je_unB call_len4 ok_len B.len (je_v 5) boot_len)) (blkOk_by (by kernel_rfl)) (fun _ _ _ _ _ => jg_nm 10 nd) (fun _ _ _ _ _ => jts_one (jt_in hu (je_sub2 hu (je_v 5) (je_v 10)) (je_slice (je_v 5) (jo_none) (jo_some (je_v 10))))) (fun _ _ _ _ _ => je_v 10)) boot_len) (je_int)))
    (jss_cons (js_if (jt_not (jt_tru (je_callF c__law_same hr (by decide) rfl (jar_cons (je_callF c_is_perfect hr (by decide) rfl (jar_cons (je_unT (call_list3 rfl) ok_list B.list (je_v 4) (by decide +kernel)) (jar_nil))) (jar_cons (je_v 9) (jar_nil))))))
    (jss_one (js_ret (je_bl)))
    (jss_nil))
    (jss_cons (js_if (jt_not (jt_tru (je_callF c__law_same hr (by decide) rfl (jar_cons (je_callF c_inner_rectangle hr (by decide) rfl (jar_cons (je_v 2) (jar_cons (je_v 3) (jar_cons (je_unT (call_list3 rfl) ok_list B.list (je_v 4) (by decide +kernel)) (jar_nil))))) (jar_cons (je_callF c__law_first_within hr (by decide) rfl (jar_cons (je_v 2) (jar_cons (je_v 3) (jar_cons (je_v 4) (jar_nil))))) (jar_nil))))))
    (jss_one (js_ret (je_bl)))
    (jss_nil))
    (jss_cons (js_asg (i := 11) nd (je_list (jad_cons (je_tup (jad_cons (je_int) (jad_cons (je_int) (jad_cons (je_int) (jad_nil))))) (jad_cons (je_tup (jad_cons (je_int) (jad_cons (je_int) (jad_cons (je_int) (jad_nil))))) (jad_cons (je_tup (jad_cons (je_int) (jad_cons (je_int) (jad_cons (je_int) (jad_nil))))) (jad_cons (je_tup (jad_cons (je_int) (jad_cons (je_int) (jad_cons (je_int) (jad_nil))))) (jad_cons (je_tup (jad_cons (je_int) (jad_cons (je_int) (jad_cons (je_int) (jad_nil))))) (jad_cons (je_tup (jad_cons (je_int) (jad_cons (je_int) (jad_cons (je_int) (jad_nil))))) (jad_cons (je_tup (jad_cons (je_int) (jad_cons (je_int) (jad_cons (je_int) (jad_nil))))) (jad_cons (je_tup (jad_cons (je_int) (jad_cons (je_int) (jad_cons (je_int) (jad_nil))))) (jad_cons (je_tup (jad_cons (je_int) (jad_cons (je_int) (jad_cons (je_int) (jad_nil))))) (jad_nil))))))))))))
    (jss_cons (js_if (jt_w (jw_or (jt_cp (cr_isn) (je_callF c_is_parting hr (by decide) rfl (jar_cons (je_int) (jar_cons (je_int) (jar_cons (je_unT (call_list3 rfl) ok_list B.list (je_v 11) (by decide +kernel)) (jar_nil))))) (je_bl)) (jw_or1 (jt_cp (cr_isn) (je_callF c_is_perfect hr (by decide) rfl (jar_cons (je_unT (call_list3 rfl) ok_list B.list (je_v 11) (by decide +kernel)) (jar_nil))) (je_bl)))))
    (jss_one (js_ret (je_bl)))
    (jss_nil))
    (jss_one (js_ret (je_cp (cr_is) (je_callF c_inner_rectangle hr (by decide) rfl (jar_cons (je_int) (jar_cons (je_int) (jar_cons (je_unT (call_list3 rfl) ok_list B.list (je_v 11) (by decide +kernel)) (jar_nil))))) (je_non))))))))))))
theorem cal_law (B : Bl mg) (D : DefOk K mg "law" st_law ["script"]) (c__law_first_within : C8.Cal P w K mg base 1 "_law_first_within" (spF K fd__law_first_within) []) (c__law_parting : C8.Cal P w K mg base 4 "_law_parting" (spW K fd__law_parting) []) (c__law_pool : C8.Cal P w K mg base 3 "_law_pool" (spF K fd__law_pool) []) (c__law_same : C8.Cal P w K mg base 9 "_law_same" (spF K fd__law_same) []) (c__law_turned_parting : C8.Cal P w K mg base 4 "_law_turned_parting" (spW K fd__law_turned_parting) []) (c_inner_rectangle : C8.Cal P w K mg base 2 "inner_rectangle" (spF K fd_inner_rectangle) []) (c_is_parting : C8.Cal P w K mg base 1 "is_parting" (spF K fd_is_parting) []) (c_is_perfect : C8.Cal P w K mg base 1 "is_perfect" (spF K fd_is_perfect) []) : C8.Cal P w K mg base 10 "law" (spF K fd_law) [] := calF (k := 9) D sc_law (bo_law B D c__law_first_within c__law_parting c__law_pool c__law_same c__law_turned_parting c_inner_rectangle c_is_parting c_is_perfect) (by decide)
end
end LawX
set_option Elab.async false
set_option linter.all false
set_option maxRecDepth 100000
namespace LawX
open PySem PySem.Spec PyProof.Rows L2 Ev
/-! ### the pool -/
theorem mixed_ok (n i : Int) : ∃ m : Int, fd__law_mixed [.int n, .int i] = some (.shr (.int m), []) := by
  have h0 : ∀ x : Int, (x % 618970019642690137449562111).natAbs < 2 ^ 200 := fun x => emod_lt (by decide) (by decide +kernel)
  have h1 : ∀ x : Int, (x % 162259276829213363391578010288127).natAbs < 2 ^ 200 := fun x => emod_lt (by decide) (by decide +kernel)
  have h3 : (618970019642690137449562111 : Int).natAbs < 2 ^ 200 := by decide +kernel
  simp [fd__law_mixed, fnF, ev__law_mixed, envF, bodyR, retR, sSeq, sAsg, sRet, eBin, eUn, eV, eC, opInt, opAdd, opSub, Ev.settle, look, store, take, ioAt, Slot.get, opMul_r, opMul_l, opMod_p, opMul_m, h0, h1, h3]
theorem scr_at (ns : List Int) (i : Int) (h : 0 ≤ i) (hn : ns ≠ []) : ∃ z : Int, L2.atI (ns.map PyData.int) (i % (ns.length : Int)) = some (PyData.int z) := by
  have hl : 0 < ns.length := List.length_pos_iff.mpr hn
  have h1 := Int.emod_nonneg i (by omega : (ns.length : Int) ≠ 0)
  have h2 := Int.emod_lt_of_pos i (by omega : 0 < (ns.length : Int))
  obtain ⟨j, hj⟩ := Int.eq_ofNat_of_zero_le h1
  have hj2 : j < ns.length := by omega
  refine ⟨ns[j], ?_⟩
  rw [hj, L2.atI_nat (j := j) (by rw [List.getElem?_map, List.getElem?_eq_getElem hj2]; rfl)]
theorem rest_ok (ns : List Int) (i f : Int) (h : 0 ≤ i) : ∃ m : Int, fd__law_rest [scrD ns, .int i, .int f] = some (.shr (.int m), []) := by
  suffices hs : ∃ m e, ev__law_rest [.frz (scrD ns), .frz (.int i), .frz (.int f), .emp] = some (.rt (.shr (.int m)) e) by
    obtain ⟨m, e, h⟩ := hs
    refine ⟨m, ?_⟩
    simp [fd__law_rest, fnF, envF, bodyR, h, retR]
  unfold ev__law_rest scrD
  refine seq_nx (P := fun o => ∃ m e, o = some (.rt (.shr (.int m)) e)) (e1 := [.frz (.list (ns.map .int)), .frz (.int i), .frz (.int f), .frz (.int 0)]) (by simp [fnF, fnW, envF, bodyR, retR, ioW, sNil, sSeq, sAsg, sRet, sRetN, sIf, sExpr, sSub, setAt, asT, tTru, tNot', tAnd', tOr', eBin, eUn, eV, eC, eSub, subK, opSub2, eIf, eNeg, callF, callW, arNil, arCons, takeAll, lentOf, setLent, fitR, flatD, scalD, opInt, opAdd, opSub, opLen, opPow, powOk, opLt_int, opLe_int, opGt_int, opGe_int, opEq_int, opNe_int, opMul_r, opMul_l, Ev.settle, look, store, take, ioAt, Slot.get, dTru]) ?_
  obtain ⟨z, hz⟩ : ∃ z : Int, (sIf (asT (eBin opGt (eUn opLen (eV 0)) (eC (.int 0)))) (sAsg 3 (eUn opInt (eSub (eV 0) (eBin opMod (eUn opInt (eV 1)) (eUn opLen (eV 0)))))) (sNil)) [.frz (.list (ns.map .int)), .frz (.int i), .frz (.int f), .frz (.int 0)] = some (.nx [.frz (.list (ns.map .int)), .frz (.int i), .frz (.int f), .frz (.int z)]) := by
    by_cases hn : ns = []
    · subst hn
      exact ⟨0, by simp [fnF, fnW, envF, bodyR, retR, ioW, sNil, sSeq, sAsg, sRet, sRetN, sIf, sExpr, sSub, setAt, asT, tTru, tNot', tAnd', tOr', eBin, eUn, eV, eC, eSub, subK, opSub2, eIf, eNeg, callF, callW, arNil, arCons, takeAll, lentOf, setLent, fitR, flatD, scalD, opInt, opAdd, opSub, opLen, opPow, powOk, opLt_int, opLe_int, opGt_int, opGe_int, opEq_int, opNe_int, opMul_r, opMul_l, Ev.settle, look, store, take, ioAt, Slot.get, dTru]⟩
    · obtain ⟨z, hz⟩ := scr_at ns i h hn
      have hl : 0 < ns.length := List.length_pos_iff.mpr hn
      have hl' : (0 : Int) < (ns.length : Int) := by omega
      exact ⟨z, by simp [fnF, fnW, envF, bodyR, retR, ioW, sNil, sSeq, sAsg, sRet, sRetN, sIf, sExpr, sSub, setAt, asT, tTru, tNot', tAnd', tOr', eBin, eUn, eV, eC, eSub, subK, opSub2, eIf, eNeg, callF, callW, arNil, arCons, takeAll, lentOf, setLent, fitR, flatD, scalD, opInt, opAdd, opSub, opLen, opPow, powOk, opLt_int, opLe_int, opGt_int, opGe_int, opEq_int, opNe_int, opMul_r, opMul_l, Ev.settle, look, store, take, ioAt, Slot.get, dTru, hl', hz, hl, opMod_p]⟩
  refine seq_nx (P := fun o => ∃ m e, o = some (.rt (.shr (.int m)) e)) hz ?_
  clear hz
  obtain ⟨z, hz⟩ : ∃ y : Int, (sIf (asT (eBin opLt (eV 3) (eC (.int 0)))) (sAsg 3 (eBin opSub (eC (.int 1)) (eBin opMul (eC (.int 2)) (eV 3)))) (sNil)) [.frz (.list (ns.map .int)), .frz (.int i), .frz (.int f), .frz (.int z)] = some (.nx [.frz (.list (ns.map .int)), .frz (.int i), .frz (.int f), .frz (.int y)]) := by
    by_cases hz : z < 0
    · exact ⟨1 - 2 * z, by simp [fnF, fnW, envF, bodyR, retR, ioW, sNil, sSeq, sAsg, sRet, sRetN, sIf, sExpr, sSub, setAt, asT, tTru, tNot', tAnd', tOr', eBin, eUn, eV, eC, eSub, subK, opSub2, eIf, eNeg, callF, callW, arNil, arCons, takeAll, lentOf, setLent, fitR, flatD, scalD, opInt, opAdd, opSub, opLen, opPow, powOk, opLt_int, opLe_int, opGt_int, opGe_int, opEq_int, opNe_int, opMul_r, opMul_l, Ev.settle, look, store, take, ioAt, Slot.get, dTru, hz]⟩
    · exact ⟨z, by simp [fnF, fnW, envF, bodyR, retR, ioW, sNil, sSeq, sAsg, sRet, sRetN, sIf, sExpr, sSub, setAt, asT, tTru, tNot', tAnd', tOr', eBin, eUn, eV, eC, eSub, subK, opSub2, eIf, eNeg, callF, callW, arNil, arCons, takeAll, lentOf, setLent, fitR, flatD, scalD, opInt, opAdd, opSub, opLen, opPow, powOk, opLt_int, opLe_int, opGt_int, opGe_int, opEq_int, opNe_int, opMul_r, opMul_l, Ev.settle, look, store, take, ioAt, Slot.get, dTru, hz]⟩
  refine seq_nx (P := fun o => ∃ m e, o = some (.rt (.shr (.int m)) e)) hz ?_
  clear hz
  obtain ⟨m, hm⟩ := mixed_ok (z + f * 1000003) i
  by_cases hc : f = 0 ∧ i < (ns.length : Int) ∧ 1000000000000000000 ≤ z
  · obtain ⟨h1, h2, h3⟩ := hc
    subst h1
    exact ⟨z - 1000000000000000000, [.frz (.list (ns.map .int)), .frz (.int i), .frz (.int 0), .frz (.int z)], by simp [fnF, fnW, envF, bodyR, retR, ioW, sNil, sSeq, sAsg, sRet, sRetN, sIf, sExpr, sSub, setAt, asT, tTru, tNot', tAnd', tOr', eBin, eUn, eV, eC, eSub, subK, opSub2, eIf, eNeg, callF, callW, arNil, arCons, takeAll, lentOf, setLent, fitR, flatD, scalD, opInt, opAdd, opSub, opLen, opPow, powOk, opLt_int, opLe_int, opGt_int, opGe_int, opEq_int, opNe_int, opMul_r, opMul_l, Ev.settle, look, store, take, ioAt, Slot.get, dTru, h2, h3]⟩
  · have e : ∀ o, (sIf (tAnd' (asT (eBin opEq (eV 2) (eC (.int 0)))) (tAnd' (asT (eBin opLt (eV 1) (eUn opLen (eV 0)))) (asT (eBin opGe (eV 3) (eBin opPow (eC (.int 10)) (eC (.int 18))))))) o (sNil)) [.frz (.list (ns.map .int)), .frz (.int i), .frz (.int f), .frz (.int z)] = some (.nx [.frz (.list (ns.map .int)), .frz (.int i), .frz (.int f), .frz (.int z)]) := by
      intro o
      by_cases h1 : f = 0
      · subst h1
        by_cases h2 : i < (ns.length : Int)
        · have h3 : ¬ (1000000000000000000 : Int) ≤ z := fun h3 => hc ⟨rfl, h2, h3⟩
          simp [fnF, fnW, envF, bodyR, retR, ioW, sNil, sSeq, sAsg, sRet, sRetN, sIf, sExpr, sSub, setAt, asT, tTru, tNot', tAnd', tOr', eBin, eUn, eV, eC, eSub, subK, opSub2, eIf, eNeg, callF, callW, arNil, arCons, takeAll, lentOf, setLent, fitR, flatD, scalD, opInt, opAdd, opSub, opLen, opPow, powOk, opLt_int, opLe_int, opGt_int, opGe_int, opEq_int, opNe_int, opMul_r, opMul_l, Ev.settle, look, store, take, ioAt, Slot.get, dTru, h2, h3]
        · simp [fnF, fnW, envF, bodyR, retR, ioW, sNil, sSeq, sAsg, sRet, sRetN, sIf, sExpr, sSub, setAt, asT, tTru, tNot', tAnd', tOr', eBin, eUn, eV, eC, eSub, subK, opSub2, eIf, eNeg, callF, callW, arNil, arCons, takeAll, lentOf, setLent, fitR, flatD, scalD, opInt, opAdd, opSub, opLen, opPow, powOk, opLt_int, opLe_int, opGt_int, opGe_int, opEq_int, opNe_int, opMul_r, opMul_l, Ev.settle, look, store, take, ioAt, Slot.get, dTru, h2]
      · simp [fnF, fnW, envF, bodyR, retR, ioW, sNil, sSeq, sAsg, sRet, sRetN, sIf, sExpr, sSub, setAt, asT, tTru, tNot', tAnd', tOr', eBin, eUn, eV, eC, eSub, subK, opSub2, eIf, eNeg, callF, callW, arNil, arCons, takeAll, lentOf, setLent, fitR, flatD, scalD, opInt, opAdd, opSub, opLen, opPow, powOk, opLt_int, opLe_int, opGt_int, opGe_int, opEq_int, opNe_int, opMul_r, opMul_l, Ev.settle, look, store, take, ioAt, Slot.get, dTru, h1]
    refine seq_nx (P := fun o => ∃ m e, o = some (.rt (.shr (.int m)) e)) (e _) ?_
    exact ⟨m, [.frz (.list (ns.map .int)), .frz (.int i), .frz (.int f), .frz (.int z)], by simp [fnF, fnW, envF, bodyR, retR, ioW, sNil, sSeq, sAsg, sRet, sRetN, sIf, sExpr, sSub, setAt, asT, tTru, tNot', tAnd', tOr', eBin, eUn, eV, eC, eSub, subK, opSub2, eIf, eNeg, callF, callW, arNil, arCons, takeAll, lentOf, setLent, fitR, flatD, scalD, opInt, opAdd, opSub, opLen, opPow, powOk, opLt_int, opLe_int, opGt_int, opGe_int, opEq_int, opNe_int, opMul_r, opMul_l, Ev.settle, look, store, take, ioAt, Slot.get, dTru, hm]⟩
/-- a pool, as its users see it -/
def PoolOk (ns : List Int) (p : List D) : Prop := ∃ i m f : Int, p = [scrD ns, .int i, .int m, .int f] ∧ 0 ≤ i
theorem pool_ok (ns : List Int) : ∃ p, fd__law_pool [scrD ns] = some (.new (.list p), []) ∧ PoolOk ns p := by
  obtain ⟨m, hm⟩ := rest_ok ns 0 0 (Int.le_refl _)
  exact ⟨[scrD ns, .int 0, .int m, .int 0], by simp [fd__law_pool, ev__law_pool, eList, adCons, adNil, fnF, fnW, envF, bodyR, retR, ioW, sNil, sSeq, sAsg, sRet, sRetN, sIf, sExpr, sSub, setAt, asT, tTru, tNot', tAnd', tOr', eBin, eUn, eV, eC, eSub, subK, opSub2, eIf, eNeg, callF, callW, arNil, arCons, takeAll, lentOf, setLent, fitR, flatD, scalD, opInt, opAdd, opSub, opLen, opPow, powOk, opLt_int, opLe_int, opGt_int, opGe_int, opEq_int, opNe_int, opMul_r, opMul_l, Ev.settle, look, store, take, ioAt, Slot.get, dTru, hm, sizeLine_eq], 0, m, 0, rfl, Int.le_refl _⟩
theorem draw_ok {ns : List Int} {p : List D} (h : PoolOk ns p) {l : Int} (hl : 0 < l) (hl2 : l.natAbs < 2 ^ 200) : ∃ v p', fd__law_draw [.list p, .int l] = some (.shr (.int v), p') ∧ PoolOk ns p' ∧ 0 ≤ v ∧ v < l := by
  obtain ⟨i, m, f, rfl, hi⟩ := h
  have st : ∀ (m f : Int), ∃ e, (sSeq (sAsg 2 (eBin opMod (eUn opInt (eSub (eV 0) (eC (.int 2)))) (eV 1))) (sSeq (sSub (eBin opDiv (eUn opInt (eSub (eV 0) (eC (.int 2)))) (eV 1)) (eV 0) (eC (.int 2))) (sRet (eV 2)))) [.io (.list [scrD ns, .int i, .int m, .int f]), .frz (.int l), .emp] = some (.rt (.shr (.int (m % l))) e) ∧ ioW e = some [scrD ns, .int i, .int (m / l), .int f] := by
    intro m f
    exact ⟨_, by simp [fnF, fnW, envF, bodyR, retR, ioW, sNil, sSeq, sAsg, sRet, sRetN, sIf, sExpr, sSub, setAt, asT, tTru, tNot', tAnd', tOr', eBin, eUn, eV, eC, eSub, subK, opSub2, eIf, eNeg, callF, callW, arNil, arCons, takeAll, lentOf, setLent, fitR, flatD, scalD, opInt, opAdd, opSub, opLen, opPow, powOk, opLt_int, opLe_int, opGt_int, opGe_int, opEq_int, opNe_int, opMul_r, opMul_l, Ev.settle, look, store, take, ioAt, Slot.get, dTru, L2.atI, L2.ixN, opMod_p hl, opDiv_p hl hl2]; rfl, rfl⟩
  have hv := Int.emod_nonneg m (by omega : l ≠ 0)
  have hv2 := Int.emod_lt_of_pos m hl
  by_cases hm : m ≤ 1
  · obtain ⟨m', hm'⟩ := rest_ok ns i (f + 1) hi
    obtain ⟨e, h1, h2⟩ := st m' (f + 1)
    refine ⟨m' % l, [scrD ns, .int i, .int (m' / l), .int (f + 1)], ?_, ⟨i, _, _, rfl, hi⟩, Int.emod_nonneg m' (by omega), Int.emod_lt_of_pos m' hl⟩
    have : ev__law_draw [.io (.list [scrD ns, .int i, .int m, .int f]), .frz (.int l), .emp] = some (.rt (.shr (.int (m' % l))) e) := by
      unfold ev__law_draw
      refine seq_nx (P := fun o => o = _) (e1 := [.io (.list [scrD ns, .int i, .int m', .int (f + 1)]), .frz (.int l), .emp]) ?_ h1
      simp [fnF, fnW, envF, bodyR, retR, ioW, sNil, sSeq, sAsg, sRet, sRetN, sIf, sExpr, sSub, setAt, asT, tTru, tNot', tAnd', tOr', eBin, eUn, eV, eC, eSub, subK, opSub2, eIf, eNeg, callF, callW, arNil, arCons, takeAll, lentOf, setLent, fitR, flatD, scalD, opInt, opAdd, opSub, opLen, opPow, powOk, opLt_int, opLe_int, opGt_int, opGe_int, opEq_int, opNe_int, opMul_r, opMul_l, Ev.settle, look, store, take, ioAt, Slot.get, dTru, L2.atI, L2.ixN, hm, hm']
    simp [fd__law_draw, fnW, envF, bodyR, this, retR, h2]
  · obtain ⟨e, h1, h2⟩ := st m f
    refine ⟨m % l, [scrD ns, .int i, .int (m / l), .int f], ?_, ⟨i, _, _, rfl, hi⟩, hv, hv2⟩
    have : ev__law_draw [.io (.list [scrD ns, .int i, .int m, .int f]), .frz (.int l), .emp] = some (.rt (.shr (.int (m % l))) e) := by
      unfold ev__law_draw
      refine seq_nx (P := fun o => o = _) (e1 := [.io (.list [scrD ns, .int i, .int m, .int f]), .frz (.int l), .emp]) ?_ h1
      simp [fnF, fnW, envF, bodyR, retR, ioW, sNil, sSeq, sAsg, sRet, sRetN, sIf, sExpr, sSub, setAt, asT, tTru, tNot', tAnd', tOr', eBin, eUn, eV, eC, eSub, subK, opSub2, eIf, eNeg, callF, callW, arNil, arCons, takeAll, lentOf, setLent, fitR, flatD, scalD, opInt, opAdd, opSub, opLen, opPow, powOk, opLt_int, opLe_int, opGt_int, opGe_int, opEq_int, opNe_int, opMul_r, opMul_l, Ev.settle, look, store, take, ioAt, Slot.get, dTru, L2.atI, L2.ixN, hm]
    simp [fd__law_draw, fnW, envF, bodyR, this, retR, h2]

theorem next_ok {ns : List Int} {p : List D} (h : PoolOk ns p) : ∃ p', fd__law_next [.list p] = some (.shr .none, p') ∧ PoolOk ns p' := by
  obtain ⟨i, m, f, rfl, hi⟩ := h
  obtain ⟨m', hm'⟩ := rest_ok ns (i + 1) 0 (by omega)
  refine ⟨[scrD ns, .int (i + 1), .int m', .int 0], ?_, i + 1, m', 0, rfl, by omega⟩
  refine fnW_ok rfl ⟨.nx [.io (.list [scrD ns, .int (i + 1), .int m', .int 0])], ?_, rfl, rfl⟩
  simp [ev__law_next, fnF, fnW, envF, bodyR, retR, ioW, sNil, sSeq, sAsg, sRet, sRetN, sIf, sExpr, sSub, setAt, asT, tTru, tNot', tAnd', tOr', eBin, eUn, eV, eC, eSub, subK, opSub2, eIf, eNeg, callF, callW, arNil, arCons, takeAll, lentOf, setLent, fitR, flatD, scalD, opInt, opAdd, opSub, opLen, opPow, powOk, opLt_int, opLe_int, opGt_int, opGe_int, opEq_int, opNe_int, opMul_r, opMul_l, Ev.settle, look, store, take, ioAt, Slot.get, dTru, L2.atI, L2.ixN, hm']
theorem draw_at {ns : List Int} {p : List D} (h : PoolOk ns p) {l : Int} (hl : 0 < l) (hl2 : l < 1000000) : ∃ (v : Nat) (p' : List D), fd__law_draw [.list p, .int l] = some (.shr (.int v), p') ∧ PoolOk ns p' ∧ (v : Int) < l := by
  obtain ⟨v, p', h1, h2, h3, h4⟩ := draw_ok h hl (by
    have : l.natAbs < 1000000 := by omega
    exact Nat.lt_of_lt_of_le this (by decide))
  obtain ⟨n, rfl⟩ := Int.eq_ofNat_of_zero_le h3
  exact ⟨n, p', h1, h2, h4⟩
end LawX
set_option Elab.async false
set_option linter.all false
set_option maxRecDepth 100000
set_option maxHeartbeats 1000000
namespace LawX
open PySem PySem.Spec PyProof.Rows L2 Ev PySem.W
/-! ### squares; first matches -/
abbrev Sq := T3 Int Int Int
abbrev sqD (s : Sq) : D := .tuple [.int s.a, .int s.b, .int s.c]
abbrev sqs (S : List Sq) : D := .list (S.map sqD)
abbrev nms (ns : List Int) : D := .list (ns.map .int)
/-- any target, typed -/
theorem eComp_ty {α β : Type} {it : I} {tg : TgE} {t : Ev.T} {f : E} {vs : List Nat} {e e1 e3 : Ev.Env} {l : Option Nat} (xs : List α) (enc : α → D) (enc' : β → D) (p : α → Bool) (g : α → β) (hit : it e = some (xs.map enc, l, e1)) (hw : okWipe e1 vs = true) (hu : unlockE l e1 = some e3)
    (h : ∀ x ∈ xs, ∃ e2, tg (enc x) (wipeE e1 vs) = some e2 ∧ t e2 = some (p x, e2) ∧ okWipe e2 vs = true ∧ wipeE e2 vs = wipeE e1 vs ∧ (p x = true → ∃ r, f e2 = some (r, e2) ∧ take r e2 = some (enc' (g x), e2))) :
    eComp it tg t f vs e = some (.new (.list (((xs.filter p).map g).map enc')), e3) := by
  have lc : ∀ ys : List α, ys ⊆ xs → ∀ e, wipeE e vs = wipeE e1 vs → ∃ e', loopC tg t f vs (ys.map enc) e = some (((ys.filter p).map g).map enc', e') ∧ wipeE e' vs = wipeE e1 vs := by
    intro ys
    induction ys with
    | nil => exact fun _ e hW => ⟨e, rfl, hW⟩
    | cons y ys ih =>
      intro hy e hW
      obtain ⟨e2, h1, h2, h3, h4, h5⟩ := h y (hy List.mem_cons_self)
      obtain ⟨e', h6, h7⟩ := ih (fun z hz => hy (List.mem_cons_of_mem _ hz)) e2 h4
      refine ⟨e', ?_, h7⟩
      cases hp : p y with
      | true =>
        obtain ⟨r, h8, h9⟩ := h5 hp
        rw [hp] at h2
        simp only [List.map_cons, loopC, hW, h1, h2, h8, h9, h3, h6, bind, Option.bind, if_true, pure, List.filter_cons_of_pos hp]
      | false =>
        rw [hp] at h2
        simp only [List.map_cons, loopC, hW, h1, h2, h3, h6, bind, Option.bind, List.filter_cons_of_neg (show ¬ p y = true by rw [hp]; exact Bool.false_ne_true)]
        rfl
  obtain ⟨e2, h1, h2⟩ := lc xs (fun _ h => h) e1 rfl
  simp only [eComp, hit, hw, h1, restoreE_wipe h2, hu, bind, Option.bind, if_true, pure]
theorem filter_all {α : Type} (xs : List α) : xs.filter (fun _ => true) = xs := List.filter_eq_self.mpr fun _ _ => rfl
/-- a for that returns the first answer -/
theorem wp_find {α : Type} {it : I} {tg : TgE} {body : S} {e e1 : Ev.Env} {l : Option Nat} (xs : List α) (enc : α → D) (F : α → Option Rs) (I J : Ev.Env → Prop) (hit : it e = some (xs.map enc, l, e1)) (h0 : I e1)
    (hb : ∀ x ∈ xs, ∀ e, I e → ∃ e2, tg (enc x) e = some e2 ∧ Wp (body e2) fun o => match F x with | some r => ∃ e3, o = .rt r e3 ∧ I e3 | none => ∃ e3, o = .nx e3 ∧ I e3)
    (hu : ∀ e, I e → ∃ e', unlockE l e = some e' ∧ J e') : Wp (sFor it tg body e) fun o => match xs.findSome? F with | some r => ∃ e3, o = .rt r e3 ∧ J e3 | none => ∃ e3, o = .nx e3 ∧ J e3 := by
  refine wp_for (l := l) (e1 := e1) (fun i e => I e ∧ (xs.take i).findSome? F = none) hit ⟨h0, rfl⟩ (fun i d ei hd hi => ?_) fun e' he => ?_
  · rw [List.getElem?_map] at hd
    obtain ⟨x, hx, rfl⟩ := Option.map_eq_some_iff.mp hd
    obtain ⟨e2, h1, o, h2, h3⟩ := hb x (List.mem_of_getElem? hx) ei hi.1
    refine ⟨e2, h1, o, h2, ?_⟩
    cases hF : F x with
    | some r =>
      rw [hF] at h3
      obtain ⟨e3, rfl, h4⟩ := h3
      obtain ⟨e4, h5, h6⟩ := hu e3 h4
      have hf : xs.findSome? F = some r := by
        have hs : xs = xs.take i ++ x :: xs.drop (i + 1) := by
          obtain ⟨g1, g2⟩ := List.getElem?_eq_some_iff.mp hx
          rw [← g2, ← List.drop_eq_getElem_cons g1, List.take_append_drop]
        rw [hs, List.findSome?_append, hi.2, List.findSome?_cons, hF]
        rfl
      rw [hf]
      refine ⟨.rt r e4, ?_, e4, rfl, h6⟩
      simp only [unlockO, h5, Option.map]
    | none =>
      rw [hF] at h3
      obtain ⟨e3, rfl, h4⟩ := h3
      refine ⟨h4, ?_⟩
      rw [List.take_add_one, hx, List.findSome?_append, hi.2]
      simp [hF]
  · obtain ⟨h1, h2⟩ := he
    rw [List.length_map, List.take_length] at h2
    obtain ⟨e4, h5, h6⟩ := hu e' h1
    rw [h2]
    refine ⟨.nx e4, ?_, e4, rfl, h6⟩
    simp only [unlockO, h5, Option.map]
/-! ### doubles do not matter -/
theorem find_ss {β : Type} (f : Int → Option β) : ∀ {L : List Int}, L.Pairwise (· ≤ ·) → L.findSome? f = (ssI L).findSome? f
  | [], _ => rfl
  | x :: L, h => by
    have h' := List.pairwise_cons.mp h
    have ih := find_ss f h'.2
    rw [List.findSome?_cons, ih]
    show _ = (Ev.insI x (ssI L)).findSome? f
    cases hs : ssI L with
    | nil => cases hf : f x <;> simp [Ev.insI, hf]
    | cons y ys =>
      have hy : x ≤ y := h'.1 y (ssI_mem.mp (by rw [hs]; exact List.mem_cons_self))
      unfold Ev.insI
      by_cases hl : x < y
      · rw [if_pos hl, List.findSome?_cons (a := x)]
      · have e : x = y := by omega
        subst e
        rw [if_neg hl, if_pos rfl]
        cases hf : f x <;> simp [List.findSome?_cons, hf]
theorem find_filter {α β : Type} (p : α → Bool) (f : α → Option β) : ∀ xs : List α, (xs.filter p).findSome? f = xs.findSome? fun a => if p a = true then f a else none
  | [] => rfl
  | x :: xs => by
    have ih := find_filter p f xs
    cases hp : p x with
    | true => rw [List.filter_cons_of_pos hp, List.findSome?_cons, List.findSome?_cons, ih]; simp [hp]
    | false => rw [List.filter_cons_of_neg (by simp [hp]), List.findSome?_cons, ih]; simp [hp]
/-! ### what is found -/
def wit (x y r l : Int) (s : Sq) : Bool := decide (x ≤ s.a) && (decide (y ≤ s.b) && (decide (s.a + s.c ≤ r) && decide (s.b + s.c ≤ l)))
def area (S : List Sq) : Int := (S.map fun s => s.c * s.c).sum
def whole (S : List Sq) (x y r l : Int) : Bool := decide (area (S.filter (wit x y r l)) = (r - x) * (l - y))
def many (S : List Sq) (x y r l : Int) : Bool := decide (1 < (S.filter (wit x y r l)).length) && decide ((S.filter (wit x y r l)).length < S.length)
def resD (x y r l : Int) : D := .tuple [.int x, .int y, .int (r - x), .int (l - y)]
def fndP (A U : List Int) (S : List Sq) : Option Rs := A.findSome? fun x => U.findSome? fun y => (A.filter fun r => decide (x < r)).findSome? fun r => (U.filter fun l => decide (y < l)).findSome? fun l => if (whole S x y r l && many S x y r l) = true then some (.shr (resD x y r l)) else none
def fndL (A U : List Int) (S : List Sq) : Option Rs := A.findSome? fun x => U.findSome? fun y => A.findSome? fun r => U.findSome? fun l => if (decide (x < r) && (decide (y < l) && (many S x y r l && whole S x y r l))) = true then some (.shr (resD x y r l)) else none
theorem fnd_same {A U A' U' : List Int} (S : List Sq) (h1 : A'.Pairwise (· ≤ ·)) (h2 : U'.Pairwise (· ≤ ·)) (e1 : ssI A' = A) (e2 : ssI U' = U) : fndL A' U' S = fndP A U S := by
  unfold fndL fndP
  subst e1; subst e2
  rw [find_ss _ h1]
  congr 1; funext x
  rw [find_ss _ h2]
  congr 1; funext y
  rw [find_ss _ h1, find_filter]
  congr 1; funext r
  rw [find_ss _ h2, find_filter]
  by_cases hx : x < r
  · rw [if_pos (by simpa using hx)]
    congr 1; funext l
    by_cases hy : y < l
    · rw [if_pos (show decide (y < l) = true by simpa using hy), decide_eq_true hx, decide_eq_true hy, Bool.true_and, Bool.true_and, Bool.and_comm]
    · rw [if_neg (show ¬ decide (y < l) = true by simpa using hy), decide_eq_false hy]; simp
  · rw [if_neg (by simpa using hx), decide_eq_false hx]
    simp
end LawX
set_option Elab.async false
set_option linter.all false
set_option maxRecDepth 100000
set_option maxHeartbeats 2000000
namespace LawX
open PySem PySem.Spec PyProof.Rows L2 Ev PySem.W
theorem eAnd_b {f g : E} {e : Ev.Env} {a b : Bool} (h1 : f e = some (.shr (.bool a), e)) (h2 : g e = some (.shr (.bool b), e)) : eAnd f g e = some (.shr (.bool (a && b)), e) := by
  cases a <;> simp [eAnd, h1, h2, look, dTru]
section
variable {s : Sq} {w h x y r l : Int} {S M : List Sq} {A U : List Int} {s11 : Slot} {x4 x7 x8 x10 x13 : Option D}
theorem sq_at : L2.atI [PyData.int s.a, .int s.b, .int s.c] 0 = some (.int s.a) ∧ L2.atI [PyData.int s.a, .int s.b, .int s.c] 1 = some (.int s.b) ∧ L2.atI [PyData.int s.a, .int s.b, .int s.c] 2 = some (.int s.c) := ⟨L2.atI_nat (j := 0) rfl, L2.atI_nat (j := 1) rfl, L2.atI_nat (j := 2) rfl⟩
theorem sp_within : fd_is_within [sqD s, .int x, .int y, .int r, .int l] = some (.shr (.bool (wit x y r l s)), []) := by
  obtain ⟨a0, a1, a2⟩ := sq_at (s := s)
  refine fnF_ok rfl ?_
  show Wp (ev_is_within [.frz (sqD s), .frz (.int x), .frz (.int y), .frz (.int r), .frz (.int l)]) _
  refine wp_ret (r := .shr (.bool (wit x y r l s))) (e1 := [.frz (sqD s), .frz (.int x), .frz (.int y), .frz (.int r), .frz (.int l)]) ?_ rfl
  refine eAnd_b ?_ (eAnd_b ?_ (eAnd_b ?_ ?_)) <;> simp only [eBin, eSub, eV, eC, List.getElem?_cons_succ, List.getElem?_cons_zero, bind, Option.bind, look, Ev.settle, opSub2, a0, a1, a2, Option.map, subK, opAdd, opLe_int, pure]
theorem ir_told : eComp (iN 2) (gNm 12) (tTru (callF fd_is_within (arCons (eV 12) (arCons (eV 4) (arCons (eV 7) (arCons (eV 8) (arCons (eV 10) (arNil)))))))) (eV 12) [12] [.frz (.int w), .frz (.int h), .frz (sqs S), .lk (nms A), .frz (.int x), .emp, .lk (nms U), .frz (.int y), .frz (.int r), .emp, .frz (.int l), s11, .emp, osl x13, .emp] = some (.new (sqs (S.filter (wit x y r l))), [.frz (.int w), .frz (.int h), .frz (sqs S), .lk (nms A), .frz (.int x), .emp, .lk (nms U), .frz (.int y), .frz (.int r), .emp, .frz (.int l), s11, .emp, osl x13, .emp]) := by
  have hs := fun s => sp_within (s := s) (x := x) (y := y) (r := r) (l := l)
  generalize fd_is_within = g at *
  have hc := eComp_nm (it := iN 2) (t := tTru (callF g (arCons (eV 12) (arCons (eV 4) (arCons (eV 7) (arCons (eV 8) (arCons (eV 10) (arNil)))))))) (f := eV 12) (i := 12) (l := none) (e := [.frz (.int w), .frz (.int h), .frz (sqs S), .lk (nms A), .frz (.int x), .emp, .lk (nms U), .frz (.int y), .frz (.int r), .emp, .frz (.int l), s11, .emp, osl x13, .emp]) (e1 := [.frz (.int w), .frz (.int h), .frz (sqs S), .lk (nms A), .frz (.int x), .emp, .lk (nms U), .frz (.int y), .frz (.int r), .emp, .frz (.int l), s11, .emp, osl x13, .emp]) (e3 := [.frz (.int w), .frz (.int h), .frz (sqs S), .lk (nms A), .frz (.int x), .emp, .lk (nms U), .frz (.int y), .frz (.int r), .emp, .frz (.int l), s11, .emp, osl x13, .emp]) S sqD sqD (wit x y r l) (fun s => s) rfl rfl rfl (fun s _ => by
    refine tTru_eq (r := .shr (.bool (wit x y r l s))) (d := .bool (wit x y r l s)) ?_ rfl rfl
    simp only [callF, arCons, arNil, eV, List.set_cons_succ, List.set_cons_zero, List.getElem?_cons_succ, List.getElem?_cons_zero, bind, Option.bind, Ev.settle, pure, takeAll, take, hs, fitR, scalD, if_true]) (fun s _ _ => ⟨.shr (sqD s), rfl, rfl⟩)
  rw [List.map_id'] at hc
  exact hc
theorem ir_area (hM : ∀ s ∈ M, s.c.natAbs < 1000) (hs : M.length < 1000) : eBin opEq (eUn opSum (eWith 11 (eComp (iN 11) (gTp 3 (gsCons (gNm 5) (gsCons (gNm 5) (gsCons (gNm 14) (gsNil))))) (tYes') (eBin opMul (eV 14) (eV 14)) [5, 14]))) (eBin opMul (eBin opSub (eV 8) (eV 4)) (eBin opSub (eV 10) (eV 7))) [.frz (.int w), .frz (.int h), .frz (sqs S), .lk (nms A), .frz (.int x), .emp, .lk (nms U), .frz (.int y), .frz (.int r), .emp, .frz (.int l), .own (sqs M), .emp, osl x13, .emp] = some (.shr (.bool (decide (area M = (r - x) * (l - y)))), [.frz (.int w), .frz (.int h), .frz (sqs S), .lk (nms A), .frz (.int x), .emp, .lk (nms U), .frz (.int y), .frz (.int r), .emp, .frz (.int l), .own (sqs M), .emp, osl x13, .emp]) ∨ ¬ (l - y).natAbs < 2 ^ 64 := by
  by_cases hl : (l - y).natAbs < 2 ^ 64
  · left
    have hc := eComp_ty (it := iN 11) (tg := gTp 3 (gsCons (gNm 5) (gsCons (gNm 5) (gsCons (gNm 14) (gsNil))))) (t := tYes') (f := eBin opMul (eV 14) (eV 14)) (vs := [5, 14]) (l := some 11) (e := [.frz (.int w), .frz (.int h), .frz (sqs S), .lk (nms A), .frz (.int x), .emp, .lk (nms U), .frz (.int y), .frz (.int r), .emp, .frz (.int l), .own (sqs M), .emp, osl x13, .emp]) (e1 := [.frz (.int w), .frz (.int h), .frz (sqs S), .lk (nms A), .frz (.int x), .emp, .lk (nms U), .frz (.int y), .frz (.int r), .emp, .frz (.int l), .lk (sqs M), .emp, osl x13, .emp]) (e3 := [.frz (.int w), .frz (.int h), .frz (sqs S), .lk (nms A), .frz (.int x), .emp, .lk (nms U), .frz (.int y), .frz (.int r), .emp, .frz (.int l), .own (sqs M), .emp, osl x13, .emp]) M sqD PyData.int (fun _ => true) (fun s => s.c * s.c) rfl rfl rfl (fun s hs => ⟨[.frz (.int w), .frz (.int h), .frz (sqs S), .lk (nms A), .frz (.int x), .frz (.int s.b), .lk (nms U), .frz (.int y), .frz (.int r), .emp, .frz (.int l), .lk (sqs M), .emp, osl x13, .frz (.int s.c)], rfl, rfl, rfl, rfl, fun _ => ⟨.shr (.int (s.c * s.c)), by
      have hm : opMul (.int s.c) (.int s.c) = some (.shr (.int (s.c * s.c))) := opMul_r (by have := hM s hs; exact Nat.lt_of_lt_of_le this (by decide))
      simp only [eBin, eV, List.getElem?_cons_succ, List.getElem?_cons_zero, bind, Option.bind, look, Ev.settle, hm, pure], rfl⟩⟩)
    rw [filter_all] at hc
    have hsum : opSum (nms (M.map fun s => s.c * s.c)) = some (.shr (.int (area M))) := opSum_map _
    have hw : eWith 11 (eComp (iN 11) (gTp 3 (gsCons (gNm 5) (gsCons (gNm 5) (gsCons (gNm 14) (gsNil))))) (tYes') (eBin opMul (eV 14) (eV 14)) [5, 14]) [.frz (.int w), .frz (.int h), .frz (sqs S), .lk (nms A), .frz (.int x), .emp, .lk (nms U), .frz (.int y), .frz (.int r), .emp, .frz (.int l), .own (sqs M), .emp, osl x13, .emp] = some (.new (nms (M.map fun s => s.c * s.c)), [.frz (.int w), .frz (.int h), .frz (sqs S), .lk (nms A), .frz (.int x), .emp, .lk (nms U), .frz (.int y), .frz (.int r), .emp, .frz (.int l), .own (sqs M), .emp, osl x13, .emp]) := hc
    refine eBin_eq (eUn_eq hw rfl hsum) (eBin_eq (eBin_eq (ra := .shr (.int r)) (rb := .shr (.int x)) (r := .shr (.int (r - x))) rfl rfl rfl rfl rfl) (eBin_eq (ra := .shr (.int l)) (rb := .shr (.int y)) (r := .shr (.int (l - y))) rfl rfl rfl rfl rfl) rfl rfl (opMul_r hl)) rfl rfl opEq_int
  · exact .inr hl
abbrev irB : Ev.S := (sSeq (sWith 2 (sAsg 11 (eComp (iN 2) (gNm 12) (tTru (callF fd_is_within (arCons (eV 12) (arCons (eV 4) (arCons (eV 7) (arCons (eV 8) (arCons (eV 10) (arNil)))))))) (eV 12) [12])))
 (sSeq (sAsg 13 (eBin opEq (eUn opSum (eWith 11 (eComp (iN 11) (gTp 3 (gsCons (gNm 5) (gsCons (gNm 5) (gsCons (gNm 14) (gsNil))))) (tYes') (eBin opMul (eV 14) (eV 14)) [5, 14]))) (eBin opMul (eBin opSub (eV 8) (eV 4)) (eBin opSub (eV 10) (eV 7)))))
 (sIf (tAnd' (tTru (eV 13)) (asT (eCh opLt opLt (eC (.int 1)) (eUn opLen (eV 11)) (eUn opLen (eV 2)))))
 (sRet (eTup (adCons (eV 4) (adCons (eV 7) (adCons (eBin opSub (eV 8) (eV 4)) (adCons (eBin opSub (eV 10) (eV 7)) (adNil)))))))
 (sNil))))
theorem ir_body (hS : ∀ s ∈ S, s.c.natAbs < 1000) (hl : S.length < 1000) (hly : (l - y).natAbs < 2 ^ 64) (h11 : s11.fr = true) : Wp (irB [.frz (.int w), .frz (.int h), .frz (sqs S), .lk (nms A), .frz (.int x), .emp, .lk (nms U), .frz (.int y), .frz (.int r), .emp, .frz (.int l), s11, .emp, osl x13, .emp]) fun o => match (if (whole S x y r l && many S x y r l) = true then some (Rs.shr (resD x y r l)) else none) with
    | some r' => ∃ e3, o = .rt r' e3 ∧ ∃ x10 s11 x13, Slot.fr s11 = true ∧ e3 = [.frz (.int w), .frz (.int h), .frz (sqs S), .lk (nms A), .frz (.int x), .emp, .lk (nms U), .frz (.int y), .frz (.int r), .emp, osl x10, s11, .emp, osl x13, .emp]
    | none => ∃ e3, o = .nx e3 ∧ ∃ x10 s11 x13, Slot.fr s11 = true ∧ e3 = [.frz (.int w), .frz (.int h), .frz (sqs S), .lk (nms A), .frz (.int x), .emp, .lk (nms U), .frz (.int y), .frz (.int r), .emp, osl x10, s11, .emp, osl x13, .emp] := by
  have hM : ∀ s ∈ S.filter (wit x y r l), s.c.natAbs < 1000 := fun s hs => hS s (List.mem_filter.mp hs).1
  have hMl := List.length_filter_le (wit x y r l) S
  have g11 : ioAt [.frz (.int w), .frz (.int h), .frz (sqs S), .lk (nms A), .frz (.int x), .emp, .lk (nms U), .frz (.int y), .frz (.int r), .emp, .frz (.int l), s11, .emp, osl x13, .emp] 11 = false := ioAt_fr (s := s11) rfl h11
  refine wp_nx (e1 := [.frz (.int w), .frz (.int h), .frz (sqs S), .lk (nms A), .frz (.int x), .emp, .lk (nms U), .frz (.int y), .frz (.int r), .emp, .frz (.int l), .own (sqs (S.filter (wit x y r l))), .emp, osl x13, .emp]) ?_ ?_
  · show sAsg 11 _ _ = _
    simp only [sAsg, ir_told, bind, Option.bind, store, g11, Bool.false_eq_true, if_false, pure, List.set_cons_succ, List.set_cons_zero]
  have ha := (ir_area (w := w) (h := h) (x := x) (y := y) (r := r) (l := l) (S := S) (A := A) (U := U) (x13 := x13) hM (by omega)).resolve_right fun z => z hly
  have g13 : ioAt [.frz (.int w), .frz (.int h), .frz (sqs S), .lk (nms A), .frz (.int x), .emp, .lk (nms U), .frz (.int y), .frz (.int r), .emp, .frz (.int l), .own (sqs (S.filter (wit x y r l))), .emp, osl x13, .emp] 13 = false := ioAt_osl (x := x13) rfl
  refine wp_nx (e1 := [.frz (.int w), .frz (.int h), .frz (sqs S), .lk (nms A), .frz (.int x), .emp, .lk (nms U), .frz (.int y), .frz (.int r), .emp, .frz (.int l), .own (sqs (S.filter (wit x y r l))), .emp, .frz (.bool (whole S x y r l)), .emp]) ?_ ?_
  · generalize eBin opEq (eUn opSum (eWith 11 (eComp (iN 11) (gTp 3 (gsCons (gNm 5) (gsCons (gNm 5) (gsCons (gNm 14) (gsNil))))) (tYes') (eBin opMul (eV 14) (eV 14)) [5, 14]))) (eBin opMul (eBin opSub (eV 8) (eV 4)) (eBin opSub (eV 10) (eV 7))) = G at *
    simp only [sAsg, ha, bind, Option.bind, store, take, g13, Bool.false_eq_true, if_false, pure, List.set_cons_succ, List.set_cons_zero]
    rfl
  have h4 : (4 : Nat) ≤ sizeLine := by rw [sizeLine_eq]; omega
  refine wp_if (b := whole S x y r l && many S x y r l) (e1 := [.frz (.int w), .frz (.int h), .frz (sqs S), .lk (nms A), .frz (.int x), .emp, .lk (nms U), .frz (.int y), .frz (.int r), .emp, .frz (.int l), .own (sqs (S.filter (wit x y r l))), .emp, .frz (.bool (whole S x y r l)), .emp]) (tAnd_eq (tTru_eq (r := .shr (.bool (whole S x y r l))) (d := .bool (whole S x y r l)) rfl rfl rfl) (asT_eq ?_)) (fun hb => ?_) fun hb => ?_
  · have l1 : opLt (.int 1) (.int ((S.filter (wit x y r l)).map sqD).length) = some (.shr (.bool (decide (1 < (S.filter (wit x y r l)).length)))) := by rw [opLt_int, List.length_map]; congr 3; exact decide_eq_decide.mpr (by omega)
    have l2 : opLt (.int ((S.filter (wit x y r l)).map sqD).length) (.int (S.map sqD).length) = some (.shr (.bool (decide ((S.filter (wit x y r l)).length < S.length)))) := by rw [opLt_int, List.length_map, List.length_map]; congr 3; exact decide_eq_decide.mpr (by omega)
    simp only [eCh, eUn, eV, eC, List.getElem?_cons_succ, List.getElem?_cons_zero, bind, Option.bind, look, Slot.get, Ev.settle, opLen, l1, l2, pure, many]
    cases decide (1 < (S.filter (wit x y r l)).length) <;> rfl
  · rw [if_pos hb]
    refine wp_ret (r := .shr (resD x y r l)) (e1 := [.frz (.int w), .frz (.int h), .frz (sqs S), .lk (nms A), .frz (.int x), .emp, .lk (nms U), .frz (.int y), .frz (.int r), .emp, .frz (.int l), .own (sqs (S.filter (wit x y r l))), .emp, .frz (.bool (whole S x y r l)), .emp]) ?_ ⟨_, rfl, some (.int l), .own (sqs (S.filter (wit x y r l))), some (.bool (whole S x y r l)), rfl, rfl⟩
    simp only [eTup, adCons, adNil, eBin, eV, List.getElem?_cons_succ, List.getElem?_cons_zero, bind, Option.bind, look, Ev.settle, opSub, take, pure, List.length_cons, List.length_nil, Nat.zero_add, Nat.reduceAdd, h4, if_true, resD]
  · rw [hb]
    exact ⟨_, rfl, _, rfl, some (.int l), .own (sqs (S.filter (wit x y r l))), some (.bool (whole S x y r l)), rfl, rfl⟩
end
end LawX
set_option Elab.async false
set_option linter.all false
set_option maxRecDepth 100000
set_option maxHeartbeats 2000000
namespace LawX
open PySem PySem.Spec PyProof.Rows L2 Ev PySem.W
section
variable {s : Sq} {w h x y r l : Int} {S M : List Sq} {A U : List Int} {s11 : Slot} {x4 x7 x8 x10 x13 : Option D}
/-- nothing is too great -/
structure Small (A U : List Int) (S : List Sq) : Prop where
  a : ∀ n ∈ A, n.natAbs < 1000
  u : ∀ n ∈ U, n.natAbs < 1000
  s : ∀ s ∈ S, s.c.natAbs < 1000
  l : S.length < 1000
theorem Small.dif (H : Small A U S) {m n : Int} (h1 : m ∈ U) (h2 : n ∈ U) : (m - n).natAbs < 2 ^ 64 := by
  have := H.u m h1
  have := H.u n h2
  exact Nat.lt_of_lt_of_le (show (m - n).natAbs < 2000 by omega) (by decide)
abbrev irB4 : Ev.S := sFor (iE (eWith 6 (eComp (iN 6) (gNm 9) (asT (eBin opGt (eV 9) (eV 7))) (eV 9) [9]))) (gNm 10) irB
abbrev irB3 : Ev.S := sFor (iE (eWith 3 (eComp (iN 3) (gNm 9) (asT (eBin opGt (eV 9) (eV 4))) (eV 9) [9]))) (gNm 8) irB4
abbrev irB2 : Ev.S := sWith 6 (sFor (iN 6) (gNm 7) irB3)
abbrev irB1 : Ev.S := sWith 3 (sFor (iN 3) (gNm 4) irB2)
abbrev F4 (S : List Sq) (x y r : Int) : Int → Option Rs := fun l => if (whole S x y r l && many S x y r l) = true then some (.shr (resD x y r l)) else none
abbrev F3 (U : List Int) (S : List Sq) (x y : Int) : Int → Option Rs := fun r => (U.filter fun l => decide (y < l)).findSome? (F4 S x y r)
abbrev F2 (A U : List Int) (S : List Sq) (x : Int) : Int → Option Rs := fun y => (A.filter fun r => decide (x < r)).findSome? (F3 U S x y)
abbrev F1 (A U : List Int) (S : List Sq) : Int → Option Rs := fun x => U.findSome? (F2 A U S x)
theorem ir4 (H : Small A U S) (hy : y ∈ U) (h11 : s11.fr = true) : Wp (irB4 [.frz (.int w), .frz (.int h), .frz (sqs S), .lk (nms A), .frz (.int x), .emp, .lk (nms U), .frz (.int y), .frz (.int r), .emp, osl x10, s11, .emp, osl x13, .emp]) fun o => match F3 U S x y r with
    | some r' => ∃ e3, o = .rt r' e3 ∧ ∃ x8 x10 s11 x13, Slot.fr s11 = true ∧ e3 = [.frz (.int w), .frz (.int h), .frz (sqs S), .lk (nms A), .frz (.int x), .emp, .lk (nms U), .frz (.int y), osl x8, .emp, osl x10, s11, .emp, osl x13, .emp]
    | none => ∃ e3, o = .nx e3 ∧ ∃ x8 x10 s11 x13, Slot.fr s11 = true ∧ e3 = [.frz (.int w), .frz (.int h), .frz (sqs S), .lk (nms A), .frz (.int x), .emp, .lk (nms U), .frz (.int y), osl x8, .emp, osl x10, s11, .emp, osl x13, .emp] := by
  have hc := eComp_nm (it := iN 6) (t := asT (eBin opGt (eV 9) (eV 7))) (f := eV 9) (i := 9) (l := none) (e := [.frz (.int w), .frz (.int h), .frz (sqs S), .lk (nms A), .frz (.int x), .emp, .lk (nms U), .frz (.int y), .frz (.int r), .emp, osl x10, s11, .emp, osl x13, .emp]) (e1 := [.frz (.int w), .frz (.int h), .frz (sqs S), .lk (nms A), .frz (.int x), .emp, .lk (nms U), .frz (.int y), .frz (.int r), .emp, osl x10, s11, .emp, osl x13, .emp]) (e3 := [.frz (.int w), .frz (.int h), .frz (sqs S), .lk (nms A), .frz (.int x), .emp, .lk (nms U), .frz (.int y), .frz (.int r), .emp, osl x10, s11, .emp, osl x13, .emp]) U PyData.int PyData.int (fun l => decide (y < l)) (fun l => l) rfl rfl rfl (fun l _ => asT_eq (by
    simp only [eBin, eV, List.set_cons_succ, List.set_cons_zero, List.getElem?_cons_succ, List.getElem?_cons_zero, bind, Option.bind, look, Ev.settle, opGt_int, pure])) (fun l _ _ => ⟨.shr (.int l), rfl, rfl⟩)
  rw [List.map_id'] at hc
  have hw : eWith 6 (eComp (iN 6) (gNm 9) (asT (eBin opGt (eV 9) (eV 7))) (eV 9) [9]) [.frz (.int w), .frz (.int h), .frz (sqs S), .lk (nms A), .frz (.int x), .emp, .lk (nms U), .frz (.int y), .frz (.int r), .emp, osl x10, s11, .emp, osl x13, .emp] = some (.new (nms (U.filter fun l => decide (y < l))), [.frz (.int w), .frz (.int h), .frz (sqs S), .lk (nms A), .frz (.int x), .emp, .lk (nms U), .frz (.int y), .frz (.int r), .emp, osl x10, s11, .emp, osl x13, .emp]) := hc
  refine wp_find (l := none) (e1 := [.frz (.int w), .frz (.int h), .frz (sqs S), .lk (nms A), .frz (.int x), .emp, .lk (nms U), .frz (.int y), .frz (.int r), .emp, osl x10, s11, .emp, osl x13, .emp]) (U.filter fun l => decide (y < l)) PyData.int (F4 S x y r) (fun e => ∃ x10 s11 x13, Slot.fr s11 = true ∧ e = [.frz (.int w), .frz (.int h), .frz (sqs S), .lk (nms A), .frz (.int x), .emp, .lk (nms U), .frz (.int y), .frz (.int r), .emp, osl x10, s11, .emp, osl x13, .emp]) (fun e => ∃ x8 x10 s11 x13, Slot.fr s11 = true ∧ e = [.frz (.int w), .frz (.int h), .frz (sqs S), .lk (nms A), .frz (.int x), .emp, .lk (nms U), .frz (.int y), osl x8, .emp, osl x10, s11, .emp, osl x13, .emp]) ?_ ⟨x10, s11, x13, h11, rfl⟩ (fun l hl e he => ?_) fun e he => ?_
  · simp only [iE, hw, bind, Option.bind]; rfl
  · obtain ⟨x10, s11, x13, h11, rfl⟩ := he
    have g10 : ioAt [.frz (.int w), .frz (.int h), .frz (sqs S), .lk (nms A), .frz (.int x), .emp, .lk (nms U), .frz (.int y), .frz (.int r), .emp, osl x10, s11, .emp, osl x13, .emp] 10 = false := ioAt_osl (x := x10) rfl
    have hlu := (List.mem_filter.mp hl).1
    exact ⟨[.frz (.int w), .frz (.int h), .frz (sqs S), .lk (nms A), .frz (.int x), .emp, .lk (nms U), .frz (.int y), .frz (.int r), .emp, .frz (.int l), s11, .emp, osl x13, .emp], by simp only [gNm, g10, Bool.false_eq_true, if_false, List.set_cons_succ, List.set_cons_zero], ir_body H.s H.l (H.dif hlu hy) h11⟩
  · obtain ⟨x10, s11, x13, h11, rfl⟩ := he
    exact ⟨_, rfl, some (.int r), x10, s11, x13, h11, rfl⟩
theorem ir3 (H : Small A U S) (hy : y ∈ U) (h11 : s11.fr = true) : Wp (irB3 [.frz (.int w), .frz (.int h), .frz (sqs S), .lk (nms A), .frz (.int x), .emp, .lk (nms U), .frz (.int y), osl x8, .emp, osl x10, s11, .emp, osl x13, .emp]) fun o => match F2 A U S x y with
    | some r' => ∃ e3, o = .rt r' e3 ∧ ∃ x7 x8 x10 s11 x13, Slot.fr s11 = true ∧ e3 = [.frz (.int w), .frz (.int h), .frz (sqs S), .lk (nms A), .frz (.int x), .emp, .lk (nms U), osl x7, osl x8, .emp, osl x10, s11, .emp, osl x13, .emp]
    | none => ∃ e3, o = .nx e3 ∧ ∃ x7 x8 x10 s11 x13, Slot.fr s11 = true ∧ e3 = [.frz (.int w), .frz (.int h), .frz (sqs S), .lk (nms A), .frz (.int x), .emp, .lk (nms U), osl x7, osl x8, .emp, osl x10, s11, .emp, osl x13, .emp] := by
  have hc := eComp_nm (it := iN 3) (t := asT (eBin opGt (eV 9) (eV 4))) (f := eV 9) (i := 9) (l := none) (e := [.frz (.int w), .frz (.int h), .frz (sqs S), .lk (nms A), .frz (.int x), .emp, .lk (nms U), .frz (.int y), osl x8, .emp, osl x10, s11, .emp, osl x13, .emp]) (e1 := [.frz (.int w), .frz (.int h), .frz (sqs S), .lk (nms A), .frz (.int x), .emp, .lk (nms U), .frz (.int y), osl x8, .emp, osl x10, s11, .emp, osl x13, .emp]) (e3 := [.frz (.int w), .frz (.int h), .frz (sqs S), .lk (nms A), .frz (.int x), .emp, .lk (nms U), .frz (.int y), osl x8, .emp, osl x10, s11, .emp, osl x13, .emp]) A PyData.int PyData.int (fun r => decide (x < r)) (fun l => l) rfl rfl rfl (fun l _ => asT_eq (by
    simp only [eBin, eV, List.set_cons_succ, List.set_cons_zero, List.getElem?_cons_succ, List.getElem?_cons_zero, bind, Option.bind, look, Ev.settle, opGt_int, pure])) (fun l _ _ => ⟨.shr (.int l), rfl, rfl⟩)
  rw [List.map_id'] at hc
  have hw : eWith 3 (eComp (iN 3) (gNm 9) (asT (eBin opGt (eV 9) (eV 4))) (eV 9) [9]) [.frz (.int w), .frz (.int h), .frz (sqs S), .lk (nms A), .frz (.int x), .emp, .lk (nms U), .frz (.int y), osl x8, .emp, osl x10, s11, .emp, osl x13, .emp] = some (.new (nms (A.filter fun r => decide (x < r))), [.frz (.int w), .frz (.int h), .frz (sqs S), .lk (nms A), .frz (.int x), .emp, .lk (nms U), .frz (.int y), osl x8, .emp, osl x10, s11, .emp, osl x13, .emp]) := hc
  refine wp_find (l := none) (e1 := [.frz (.int w), .frz (.int h), .frz (sqs S), .lk (nms A), .frz (.int x), .emp, .lk (nms U), .frz (.int y), osl x8, .emp, osl x10, s11, .emp, osl x13, .emp]) (A.filter fun r => decide (x < r)) PyData.int (F3 U S x y) (fun e => ∃ x8 x10 s11 x13, Slot.fr s11 = true ∧ e = [.frz (.int w), .frz (.int h), .frz (sqs S), .lk (nms A), .frz (.int x), .emp, .lk (nms U), .frz (.int y), osl x8, .emp, osl x10, s11, .emp, osl x13, .emp]) (fun e => ∃ x7 x8 x10 s11 x13, Slot.fr s11 = true ∧ e = [.frz (.int w), .frz (.int h), .frz (sqs S), .lk (nms A), .frz (.int x), .emp, .lk (nms U), osl x7, osl x8, .emp, osl x10, s11, .emp, osl x13, .emp]) ?_ ⟨x8, x10, s11, x13, h11, rfl⟩ (fun r hr e he => ?_) fun e he => ?_
  · simp only [iE, hw, bind, Option.bind]; rfl
  · obtain ⟨x8, x10, s11, x13, h11, rfl⟩ := he
    have g8 : ioAt [.frz (.int w), .frz (.int h), .frz (sqs S), .lk (nms A), .frz (.int x), .emp, .lk (nms U), .frz (.int y), osl x8, .emp, osl x10, s11, .emp, osl x13, .emp] 8 = false := ioAt_osl (x := x8) rfl
    exact ⟨[.frz (.int w), .frz (.int h), .frz (sqs S), .lk (nms A), .frz (.int x), .emp, .lk (nms U), .frz (.int y), .frz (.int r), .emp, osl x10, s11, .emp, osl x13, .emp], by simp only [gNm, g8, Bool.false_eq_true, if_false, List.set_cons_succ, List.set_cons_zero], ir4 H hy h11⟩
  · obtain ⟨x8, x10, s11, x13, h11, rfl⟩ := he
    exact ⟨_, rfl, some (.int y), x8, x10, s11, x13, h11, rfl⟩
theorem ir2 (H : Small A U S) (h11 : s11.fr = true) : Wp (irB2 [.frz (.int w), .frz (.int h), .frz (sqs S), .lk (nms A), .frz (.int x), .emp, .own (nms U), osl x7, osl x8, .emp, osl x10, s11, .emp, osl x13, .emp]) fun o => match F1 A U S x with
    | some r' => ∃ e3, o = .rt r' e3 ∧ ∃ x4 x7 x8 x10 s11 x13, Slot.fr s11 = true ∧ e3 = [.frz (.int w), .frz (.int h), .frz (sqs S), .lk (nms A), osl x4, .emp, .own (nms U), osl x7, osl x8, .emp, osl x10, s11, .emp, osl x13, .emp]
    | none => ∃ e3, o = .nx e3 ∧ ∃ x4 x7 x8 x10 s11 x13, Slot.fr s11 = true ∧ e3 = [.frz (.int w), .frz (.int h), .frz (sqs S), .lk (nms A), osl x4, .emp, .own (nms U), osl x7, osl x8, .emp, osl x10, s11, .emp, osl x13, .emp] := by
  show Wp (sFor _ _ _ _) _
  refine wp_find (l := some 6) (e1 := [.frz (.int w), .frz (.int h), .frz (sqs S), .lk (nms A), .frz (.int x), .emp, .lk (nms U), osl x7, osl x8, .emp, osl x10, s11, .emp, osl x13, .emp]) U PyData.int (F2 A U S x) (fun e => ∃ x7 x8 x10 s11 x13, Slot.fr s11 = true ∧ e = [.frz (.int w), .frz (.int h), .frz (sqs S), .lk (nms A), .frz (.int x), .emp, .lk (nms U), osl x7, osl x8, .emp, osl x10, s11, .emp, osl x13, .emp]) (fun e => ∃ x4 x7 x8 x10 s11 x13, Slot.fr s11 = true ∧ e = [.frz (.int w), .frz (.int h), .frz (sqs S), .lk (nms A), osl x4, .emp, .own (nms U), osl x7, osl x8, .emp, osl x10, s11, .emp, osl x13, .emp]) rfl ⟨x7, x8, x10, s11, x13, h11, rfl⟩ (fun y hy e he => ?_) fun e he => ?_
  · obtain ⟨x7, x8, x10, s11, x13, h11, rfl⟩ := he
    have g7 : ioAt [.frz (.int w), .frz (.int h), .frz (sqs S), .lk (nms A), .frz (.int x), .emp, .lk (nms U), osl x7, osl x8, .emp, osl x10, s11, .emp, osl x13, .emp] 7 = false := ioAt_osl (x := x7) rfl
    exact ⟨[.frz (.int w), .frz (.int h), .frz (sqs S), .lk (nms A), .frz (.int x), .emp, .lk (nms U), .frz (.int y), osl x8, .emp, osl x10, s11, .emp, osl x13, .emp], by simp only [gNm, g7, Bool.false_eq_true, if_false, List.set_cons_succ, List.set_cons_zero], ir3 H hy h11⟩
  · obtain ⟨x7, x8, x10, s11, x13, h11, rfl⟩ := he
    exact ⟨_, rfl, some (.int x), x7, x8, x10, s11, x13, h11, rfl⟩
theorem ir1 (H : Small A U S) : Wp (irB1 [.frz (.int w), .frz (.int h), .frz (sqs S), .own (nms A), .emp, .emp, .own (nms U), .emp, .emp, .emp, .emp, .emp, .emp, .emp, .emp]) fun o => match fndP A U S with
    | some r' => ∃ e3, o = .rt r' e3
    | none => ∃ e3, o = .nx e3 := by
  have hw : Wp (irB1 [.frz (.int w), .frz (.int h), .frz (sqs S), .own (nms A), .emp, .emp, .own (nms U), .emp, .emp, .emp, .emp, .emp, .emp, .emp, .emp]) fun o => match fndP A U S with
    | some r' => ∃ e3, o = .rt r' e3 ∧ True
    | none => ∃ e3, o = .nx e3 ∧ True := by
    show Wp (sFor _ _ _ _) _
    refine wp_find (l := some 3) (e1 := [.frz (.int w), .frz (.int h), .frz (sqs S), .lk (nms A), .emp, .emp, .own (nms U), .emp, .emp, .emp, .emp, .emp, .emp, .emp, .emp]) A PyData.int (F1 A U S) (fun e => ∃ x4 x7 x8 x10 s11 x13, Slot.fr s11 = true ∧ e = [.frz (.int w), .frz (.int h), .frz (sqs S), .lk (nms A), osl x4, .emp, .own (nms U), osl x7, osl x8, .emp, osl x10, s11, .emp, osl x13, .emp]) (fun e => True) rfl ⟨none, none, none, none, .emp, none, rfl, rfl⟩ (fun x hx e he => ?_) fun e he => ?_
    · obtain ⟨x4, x7, x8, x10, s11, x13, h11, rfl⟩ := he
      have g4 : ioAt [.frz (.int w), .frz (.int h), .frz (sqs S), .lk (nms A), osl x4, .emp, .own (nms U), osl x7, osl x8, .emp, osl x10, s11, .emp, osl x13, .emp] 4 = false := ioAt_osl (x := x4) rfl
      exact ⟨[.frz (.int w), .frz (.int h), .frz (sqs S), .lk (nms A), .frz (.int x), .emp, .own (nms U), osl x7, osl x8, .emp, osl x10, s11, .emp, osl x13, .emp], by simp only [gNm, g4, Bool.false_eq_true, if_false, List.set_cons_succ, List.set_cons_zero], ir2 H h11⟩
    · obtain ⟨x4, x7, x8, x10, s11, x13, h11, rfl⟩ := he
      exact ⟨_, rfl, trivial⟩
  refine hw.mono fun o ho => ?_
  cases hf : fndP A U S with
  | some r => rw [hf] at ho; obtain ⟨e, h1, _⟩ := ho; exact ⟨e, h1⟩
  | none => rw [hf] at ho; obtain ⟨e, h1, _⟩ := ho; exact ⟨e, h1⟩
theorem fndP_shr {r' : Rs} (h : fndP A U S = some r') : ∃ x y r l, r' = .shr (resD x y r l) := by
  obtain ⟨x, _, h⟩ := List.exists_of_findSome?_eq_some h
  obtain ⟨y, _, h⟩ := List.exists_of_findSome?_eq_some h
  obtain ⟨r, _, h⟩ := List.exists_of_findSome?_eq_some h
  obtain ⟨l, _, h⟩ := List.exists_of_findSome?_eq_some h
  split at h
  · cases h; exact ⟨x, y, r, l, rfl⟩
  · cases h
/-- the answer as told -/
def ansR (o : Option Rs) : Rs := match o with | some r => r | none => .shr .none
abbrev acrP (w : Int) (S : List Sq) : List Int := ssI (S.map (·.a) ++ [w])
abbrev upP (h : Int) (S : List Sq) : List Int := ssI (S.map (·.b) ++ [h])
theorem sp_inner (H : Small (acrP w S) (upP h S) S) (hS : S.length < 60) : fd_inner_rectangle [.int w, .int h, sqs S] = some (ansR (fndP (acrP w S) (upP h S) S), []) := by
  refine fnF_ok rfl ?_
  show Wp (ev_inner_rectangle [.frz (.int w), .frz (.int h), .frz (sqs S), .emp, .emp, .emp, .emp, .emp, .emp, .emp, .emp, .emp, .emp, .emp, .emp]) _
  unfold ev_inner_rectangle
  have h1s : (1 : Nat) ≤ sizeLine := by rw [sizeLine_eq]; omega
  have hsz : S.length + 1 ≤ sizeLine := by rw [sizeLine_eq]; omega
  have cA := eComp_ty (it := iN 2) (tg := gTp 3 (gsCons (gNm 4) (gsCons (gNm 5) (gsCons (gNm 5) (gsNil))))) (t := tYes') (f := eV 4) (vs := [4, 5]) (l := none) (e := [.frz (.int w), .frz (.int h), .frz (sqs S), .emp, .emp, .emp, .emp, .emp, .emp, .emp, .emp, .emp, .emp, .emp, .emp]) (e1 := [.frz (.int w), .frz (.int h), .frz (sqs S), .emp, .emp, .emp, .emp, .emp, .emp, .emp, .emp, .emp, .emp, .emp, .emp]) (e3 := [.frz (.int w), .frz (.int h), .frz (sqs S), .emp, .emp, .emp, .emp, .emp, .emp, .emp, .emp, .emp, .emp, .emp, .emp]) S sqD PyData.int (fun _ => true) (fun s => s.a) rfl rfl rfl (fun s hs => ⟨[.frz (.int w), .frz (.int h), .frz (sqs S), .emp, .frz (.int s.a), .frz (.int s.c), .emp, .emp, .emp, .emp, .emp, .emp, .emp, .emp, .emp], rfl, rfl, rfl, rfl, fun _ => ⟨.shr (.int s.a), rfl, rfl⟩⟩)
  rw [filter_all] at cA
  have wA : eWith 2 (eComp (iN 2) (gTp 3 (gsCons (gNm 4) (gsCons (gNm 5) (gsCons (gNm 5) (gsNil))))) (tYes') (eV 4) [4, 5]) [.frz (.int w), .frz (.int h), .frz (sqs S), .emp, .emp, .emp, .emp, .emp, .emp, .emp, .emp, .emp, .emp, .emp, .emp] = some (.new (nms (S.map (·.a))), [.frz (.int w), .frz (.int h), .frz (sqs S), .emp, .emp, .emp, .emp, .emp, .emp, .emp, .emp, .emp, .emp, .emp, .emp]) := cA
  have oA : opAdd (nms (S.map (·.a))) (nms [w]) = some (.new (nms (S.map (·.a) ++ [w]))) := by
    simp [opAdd, hsz]
  have sA : opSsI (nms (S.map (·.a) ++ [w])) = some (.new (nms (acrP w S))) := by
    have h2 : (S.map (·.a) ++ [w]).length < 63 := by rw [List.length_append, List.length_map]; simp; omega
    simp only [opSsI, asInts_map, h2, if_true]
  refine wp_asg (r := .new (nms (acrP w S))) (e1 := [.frz (.int w), .frz (.int h), .frz (sqs S), .emp, .emp, .emp, .emp, .emp, .emp, .emp, .emp, .emp, .emp, .emp, .emp]) (e2 := [.frz (.int w), .frz (.int h), .frz (sqs S), .own (nms (acrP w S)), .emp, .emp, .emp, .emp, .emp, .emp, .emp, .emp, .emp, .emp, .emp]) ?_ rfl ?_
  · refine eUn_eq (eBin_eq wA (rb := .new (nms [w])) ?_ rfl rfl oA) rfl sA
    simp only [eList, adCons, adNil, eV, List.getElem?_cons_zero, bind, Option.bind, take, pure, List.length_cons, List.length_nil, Nat.zero_add, h1s, if_true]
    rfl
  have cU := eComp_ty (it := iN 2) (tg := gTp 3 (gsCons (gNm 5) (gsCons (gNm 7) (gsCons (gNm 5) (gsNil))))) (t := tYes') (f := eV 7) (vs := [5, 7]) (l := none) (e := [.frz (.int w), .frz (.int h), .frz (sqs S), .own (nms (acrP w S)), .emp, .emp, .emp, .emp, .emp, .emp, .emp, .emp, .emp, .emp, .emp]) (e1 := [.frz (.int w), .frz (.int h), .frz (sqs S), .own (nms (acrP w S)), .emp, .emp, .emp, .emp, .emp, .emp, .emp, .emp, .emp, .emp, .emp]) (e3 := [.frz (.int w), .frz (.int h), .frz (sqs S), .own (nms (acrP w S)), .emp, .emp, .emp, .emp, .emp, .emp, .emp, .emp, .emp, .emp, .emp]) S sqD PyData.int (fun _ => true) (fun s => s.b) rfl rfl rfl (fun s hs => ⟨[.frz (.int w), .frz (.int h), .frz (sqs S), .own (nms (acrP w S)), .emp, .frz (.int s.c), .emp, .frz (.int s.b), .emp, .emp, .emp, .emp, .emp, .emp, .emp], rfl, rfl, rfl, rfl, fun _ => ⟨.shr (.int s.b), rfl, rfl⟩⟩)
  rw [filter_all] at cU
  have wU : eWith 2 (eComp (iN 2) (gTp 3 (gsCons (gNm 5) (gsCons (gNm 7) (gsCons (gNm 5) (gsNil))))) (tYes') (eV 7) [5, 7]) [.frz (.int w), .frz (.int h), .frz (sqs S), .own (nms (acrP w S)), .emp, .emp, .emp, .emp, .emp, .emp, .emp, .emp, .emp, .emp, .emp] = some (.new (nms (S.map (·.b))), [.frz (.int w), .frz (.int h), .frz (sqs S), .own (nms (acrP w S)), .emp, .emp, .emp, .emp, .emp, .emp, .emp, .emp, .emp, .emp, .emp]) := cU
  have oU : opAdd (nms (S.map (·.b))) (nms [h]) = some (.new (nms (S.map (·.b) ++ [h]))) := by
    simp [opAdd, hsz]
  have sU : opSsI (nms (S.map (·.b) ++ [h])) = some (.new (nms (upP h S))) := by
    have h2 : (S.map (·.b) ++ [h]).length < 63 := by rw [List.length_append, List.length_map]; simp; omega
    simp only [opSsI, asInts_map, h2, if_true]
  refine wp_asg (r := .new (nms (upP h S))) (e1 := [.frz (.int w), .frz (.int h), .frz (sqs S), .own (nms (acrP w S)), .emp, .emp, .emp, .emp, .emp, .emp, .emp, .emp, .emp, .emp, .emp]) (e2 := [.frz (.int w), .frz (.int h), .frz (sqs S), .own (nms (acrP w S)), .emp, .emp, .own (nms (upP h S)), .emp, .emp, .emp, .emp, .emp, .emp, .emp, .emp]) ?_ rfl ?_
  · refine eUn_eq (eBin_eq wU (rb := .new (nms [h])) ?_ rfl rfl oU) rfl sU
    simp only [eList, adCons, adNil, eV, List.getElem?_cons_zero, List.getElem?_cons_succ, bind, Option.bind, take, pure, List.length_cons, List.length_nil, Nat.zero_add, h1s, if_true]
    rfl
  refine wp_seq ((ir1 H).mono fun o ho => ?_)
  cases hf : fndP (acrP w S) (upP h S) S with
  | some r' =>
    rw [hf] at ho
    obtain ⟨e, rfl⟩ := ho
    obtain ⟨x, y, r, l, rfl⟩ := fndP_shr hf
    rfl
  | none =>
    rw [hf] at ho
    obtain ⟨e, rfl⟩ := ho
    exact wp_ret rfl rfl
end
end LawX
set_option Elab.async false
set_option linter.all false
set_option maxRecDepth 100000
set_option maxHeartbeats 2000000
namespace LawX
open PySem PySem.Spec PyProof.Rows L2 Ev PySem.W
section
variable {s : Sq} {w h x y r l : Int} {S M : List Sq} {A U : List Int} {s10 : Slot} {x4 x5 x8 x9 x12 : Option D}
abbrev fwTst : Ev.T := (tAnd' (asT (eBin opLe (eV 4) (eSub (eV 11) (eC (.int 0))))) (tAnd' (asT (eBin opLe (eV 5) (eSub (eV 11) (eC (.int 1))))) (tAnd' (asT (eBin opLe (eBin opAdd (eSub (eV 11) (eC (.int 0))) (eSub (eV 11) (eC (.int 2)))) (eV 8))) (asT (eBin opLe (eBin opAdd (eSub (eV 11) (eC (.int 1))) (eSub (eV 11) (eC (.int 2)))) (eV 9))))))
theorem fw_told : eComp (iN 2) (gNm 11) fwTst (eV 11) [11] [.frz (.int w), .frz (.int h), .frz (sqs S), .lk (nms A), .frz (.int x), .frz (.int y), .emp, .lk (nms U), .frz (.int r), .frz (.int l), s10, .emp, osl x12] = some (.new (sqs (S.filter (wit x y r l))), [.frz (.int w), .frz (.int h), .frz (sqs S), .lk (nms A), .frz (.int x), .frz (.int y), .emp, .lk (nms U), .frz (.int r), .frz (.int l), s10, .emp, osl x12]) := by
  have hc := eComp_nm (it := iN 2) (t := fwTst) (f := eV 11) (i := 11) (l := none) (e := [.frz (.int w), .frz (.int h), .frz (sqs S), .lk (nms A), .frz (.int x), .frz (.int y), .emp, .lk (nms U), .frz (.int r), .frz (.int l), s10, .emp, osl x12]) (e1 := [.frz (.int w), .frz (.int h), .frz (sqs S), .lk (nms A), .frz (.int x), .frz (.int y), .emp, .lk (nms U), .frz (.int r), .frz (.int l), s10, .emp, osl x12]) (e3 := [.frz (.int w), .frz (.int h), .frz (sqs S), .lk (nms A), .frz (.int x), .frz (.int y), .emp, .lk (nms U), .frz (.int r), .frz (.int l), s10, .emp, osl x12]) S sqD sqD (wit x y r l) (fun s => s) rfl rfl rfl (fun s _ => by
    obtain ⟨a0, a1, a2⟩ := sq_at (s := s)
    refine tAnd_eq (asT_eq ?_) (tAnd_eq (asT_eq ?_) (tAnd_eq (asT_eq ?_) (asT_eq ?_))) <;> simp only [eBin, eSub, eV, eC, List.set_cons_succ, List.set_cons_zero, List.getElem?_cons_succ, List.getElem?_cons_zero, bind, Option.bind, look, Ev.settle, opSub2, a0, a1, a2, Option.map, subK, opAdd, opLe_int, pure]) (fun s _ _ => ⟨.shr (sqD s), rfl, rfl⟩)
  rw [List.map_id'] at hc
  exact hc
theorem fw_area (hM : ∀ s ∈ M, s.c.natAbs < 1000) : eUn opSum (eWith 10 (eComp (iN 10) (gNm 11) (tYes') (eBin opMul (eSub (eV 11) (eC (.int 2))) (eSub (eV 11) (eC (.int 2)))) [11])) [.frz (.int w), .frz (.int h), .frz (sqs S), .lk (nms A), .frz (.int x), .frz (.int y), .emp, .lk (nms U), .frz (.int r), .frz (.int l), .own (sqs M), .emp, osl x12] = some (.shr (.int (area M)), [.frz (.int w), .frz (.int h), .frz (sqs S), .lk (nms A), .frz (.int x), .frz (.int y), .emp, .lk (nms U), .frz (.int r), .frz (.int l), .own (sqs M), .emp, osl x12]) := by
  have hc := eComp_nm (it := iN 10) (t := tYes') (f := eBin opMul (eSub (eV 11) (eC (.int 2))) (eSub (eV 11) (eC (.int 2)))) (i := 11) (l := some 10) (e := [.frz (.int w), .frz (.int h), .frz (sqs S), .lk (nms A), .frz (.int x), .frz (.int y), .emp, .lk (nms U), .frz (.int r), .frz (.int l), .own (sqs M), .emp, osl x12]) (e1 := [.frz (.int w), .frz (.int h), .frz (sqs S), .lk (nms A), .frz (.int x), .frz (.int y), .emp, .lk (nms U), .frz (.int r), .frz (.int l), .lk (sqs M), .emp, osl x12]) (e3 := [.frz (.int w), .frz (.int h), .frz (sqs S), .lk (nms A), .frz (.int x), .frz (.int y), .emp, .lk (nms U), .frz (.int r), .frz (.int l), .own (sqs M), .emp, osl x12]) M sqD PyData.int (fun _ => true) (fun s => s.c * s.c) rfl rfl rfl (fun s _ => rfl) (fun s hs _ => ⟨.shr (.int (s.c * s.c)), by
    obtain ⟨a0, a1, a2⟩ := sq_at (s := s)
    have hm : opMul (.int s.c) (.int s.c) = some (.shr (.int (s.c * s.c))) := opMul_r (by have := hM s hs; exact Nat.lt_of_lt_of_le this (by decide))
    simp only [eBin, eSub, eC, eV, List.set_cons_succ, List.set_cons_zero, List.getElem?_cons_succ, List.getElem?_cons_zero, bind, Option.bind, look, Ev.settle, opSub2, a2, Option.map, subK, hm, pure], rfl⟩)
  rw [filter_all] at hc
  have hsum : opSum (nms (M.map fun s => s.c * s.c)) = some (.shr (.int (area M))) := opSum_map _
  have hw : eWith 10 (eComp (iN 10) (gNm 11) (tYes') (eBin opMul (eSub (eV 11) (eC (.int 2))) (eSub (eV 11) (eC (.int 2)))) [11]) [.frz (.int w), .frz (.int h), .frz (sqs S), .lk (nms A), .frz (.int x), .frz (.int y), .emp, .lk (nms U), .frz (.int r), .frz (.int l), .own (sqs M), .emp, osl x12] = some (.new (nms (M.map fun s => s.c * s.c)), [.frz (.int w), .frz (.int h), .frz (sqs S), .lk (nms A), .frz (.int x), .frz (.int y), .emp, .lk (nms U), .frz (.int r), .frz (.int l), .own (sqs M), .emp, osl x12]) := hc
  exact eUn_eq hw rfl hsum
abbrev fwB : Ev.S := (sSeq (sWith 2 (sAsg 10 (eComp (iN 2) (gNm 11) fwTst (eV 11) [11])))
 (sSeq (sAsg 12 (eUn opSum (eWith 10 (eComp (iN 10) (gNm 11) (tYes') (eBin opMul (eSub (eV 11) (eC (.int 2))) (eSub (eV 11) (eC (.int 2)))) [11]))))
 (sIf (tAnd' (asT (eBin opGt (eV 8) (eV 4))) (tAnd' (asT (eBin opGt (eV 9) (eV 5))) (tAnd' (asT (eCh opLt opLt (eC (.int 1)) (eUn opLen (eV 10)) (eUn opLen (eV 2)))) (asT (eBin opEq (eV 12) (eBin opMul (eBin opSub (eV 8) (eV 4)) (eBin opSub (eV 9) (eV 5))))))))
 (sRet (eTup (adCons (eV 4) (adCons (eV 5) (adCons (eBin opSub (eV 8) (eV 4)) (adCons (eBin opSub (eV 9) (eV 5)) (adNil)))))))
 (sNil))))
abbrev G4 (S : List Sq) (x y r : Int) : Int → Option Rs := fun l => if (decide (x < r) && (decide (y < l) && (many S x y r l && whole S x y r l))) = true then some (.shr (resD x y r l)) else none
theorem fw_body (hS : ∀ s ∈ S, s.c.natAbs < 1000) (hl : S.length < 1000) (hly : (l - y).natAbs < 2 ^ 64) (h10 : s10.fr = true) : Wp (fwB [.frz (.int w), .frz (.int h), .frz (sqs S), .lk (nms A), .frz (.int x), .frz (.int y), .emp, .lk (nms U), .frz (.int r), .frz (.int l), s10, .emp, osl x12]) fun o => match G4 S x y r l with
    | some r' => ∃ e3, o = .rt r' e3 ∧ ∃ x9 s10 x12, Slot.fr s10 = true ∧ e3 = [.frz (.int w), .frz (.int h), .frz (sqs S), .lk (nms A), .frz (.int x), .frz (.int y), .emp, .lk (nms U), .frz (.int r), osl x9, s10, .emp, osl x12]
    | none => ∃ e3, o = .nx e3 ∧ ∃ x9 s10 x12, Slot.fr s10 = true ∧ e3 = [.frz (.int w), .frz (.int h), .frz (sqs S), .lk (nms A), .frz (.int x), .frz (.int y), .emp, .lk (nms U), .frz (.int r), osl x9, s10, .emp, osl x12] := by
  have hM : ∀ s ∈ S.filter (wit x y r l), s.c.natAbs < 1000 := fun s hs => hS s (List.mem_filter.mp hs).1
  have g10 : ioAt [.frz (.int w), .frz (.int h), .frz (sqs S), .lk (nms A), .frz (.int x), .frz (.int y), .emp, .lk (nms U), .frz (.int r), .frz (.int l), s10, .emp, osl x12] 10 = false := ioAt_fr (s := s10) rfl h10
  refine wp_nx (e1 := [.frz (.int w), .frz (.int h), .frz (sqs S), .lk (nms A), .frz (.int x), .frz (.int y), .emp, .lk (nms U), .frz (.int r), .frz (.int l), .own (sqs (S.filter (wit x y r l))), .emp, osl x12]) ?_ ?_
  · show sAsg 10 _ _ = _
    simp only [sAsg, fw_told, bind, Option.bind, store, g10, Bool.false_eq_true, if_false, pure, List.set_cons_succ, List.set_cons_zero]
  have ha := fw_area (w := w) (h := h) (x := x) (y := y) (r := r) (l := l) (S := S) (A := A) (U := U) (x12 := x12) hM
  have g12 : ioAt [.frz (.int w), .frz (.int h), .frz (sqs S), .lk (nms A), .frz (.int x), .frz (.int y), .emp, .lk (nms U), .frz (.int r), .frz (.int l), .own (sqs (S.filter (wit x y r l))), .emp, osl x12] 12 = false := ioAt_osl (x := x12) rfl
  refine wp_nx (e1 := [.frz (.int w), .frz (.int h), .frz (sqs S), .lk (nms A), .frz (.int x), .frz (.int y), .emp, .lk (nms U), .frz (.int r), .frz (.int l), .own (sqs (S.filter (wit x y r l))), .emp, .frz (.int (area (S.filter (wit x y r l))))]) ?_ ?_
  · generalize eUn opSum (eWith 10 (eComp (iN 10) (gNm 11) (tYes') (eBin opMul (eSub (eV 11) (eC (.int 2))) (eSub (eV 11) (eC (.int 2)))) [11])) = G at *
    simp only [sAsg, ha, bind, Option.bind, store, take, g12, Bool.false_eq_true, if_false, pure, List.set_cons_succ, List.set_cons_zero]
  have h4 : (4 : Nat) ≤ sizeLine := by rw [sizeLine_eq]; omega
  refine wp_if (b := decide (x < r) && (decide (y < l) && (many S x y r l && whole S x y r l))) (e1 := [.frz (.int w), .frz (.int h), .frz (sqs S), .lk (nms A), .frz (.int x), .frz (.int y), .emp, .lk (nms U), .frz (.int r), .frz (.int l), .own (sqs (S.filter (wit x y r l))), .emp, .frz (.int (area (S.filter (wit x y r l))))]) (tAnd_eq (asT_eq ?_) (tAnd_eq (asT_eq ?_) (tAnd_eq (asT_eq ?_) (asT_eq ?_)))) (fun hb => ?_) fun hb => ?_
  · exact eBin_eq (ra := .shr (.int r)) (rb := .shr (.int x)) rfl rfl rfl rfl opGt_int
  · exact eBin_eq (ra := .shr (.int l)) (rb := .shr (.int y)) rfl rfl rfl rfl opGt_int
  · have l1 : opLt (.int 1) (.int ((S.filter (wit x y r l)).map sqD).length) = some (.shr (.bool (decide (1 < (S.filter (wit x y r l)).length)))) := by rw [opLt_int, List.length_map]; congr 3; exact decide_eq_decide.mpr (by omega)
    have l2 : opLt (.int ((S.filter (wit x y r l)).map sqD).length) (.int (S.map sqD).length) = some (.shr (.bool (decide ((S.filter (wit x y r l)).length < S.length)))) := by rw [opLt_int, List.length_map, List.length_map]; congr 3; exact decide_eq_decide.mpr (by omega)
    simp only [eCh, eUn, eV, eC, List.getElem?_cons_succ, List.getElem?_cons_zero, bind, Option.bind, look, Slot.get, Ev.settle, opLen, l1, l2, pure, many]
    cases decide (1 < (S.filter (wit x y r l)).length) <;> rfl
  · exact eBin_eq (ra := .shr (.int (area (S.filter (wit x y r l))))) rfl (eBin_eq (eBin_eq (ra := .shr (.int r)) (rb := .shr (.int x)) (r := .shr (.int (r - x))) rfl rfl rfl rfl rfl) (eBin_eq (ra := .shr (.int l)) (rb := .shr (.int y)) (r := .shr (.int (l - y))) rfl rfl rfl rfl rfl) rfl rfl (opMul_r hly)) rfl rfl opEq_int
  · rw [show G4 S x y r l = some (.shr (resD x y r l)) from if_pos hb]
    refine wp_ret (r := .shr (resD x y r l)) (e1 := [.frz (.int w), .frz (.int h), .frz (sqs S), .lk (nms A), .frz (.int x), .frz (.int y), .emp, .lk (nms U), .frz (.int r), .frz (.int l), .own (sqs (S.filter (wit x y r l))), .emp, .frz (.int (area (S.filter (wit x y r l))))]) ?_ ⟨_, rfl, some (.int l), .own (sqs (S.filter (wit x y r l))), some (.int (area (S.filter (wit x y r l)))), rfl, rfl⟩
    simp only [eTup, adCons, adNil, eBin, eV, List.getElem?_cons_succ, List.getElem?_cons_zero, bind, Option.bind, look, Ev.settle, opSub, take, pure, List.length_cons, List.length_nil, Nat.zero_add, Nat.reduceAdd, h4, if_true, resD]
  · rw [show G4 S x y r l = none from if_neg (by rw [hb]; exact Bool.false_ne_true)]
    exact ⟨_, rfl, _, rfl, some (.int l), .own (sqs (S.filter (wit x y r l))), some (.int (area (S.filter (wit x y r l)))), rfl, rfl⟩
abbrev fwB4 : Ev.S := sWith 7 (sFor (iN 7) (gNm 9) fwB)
abbrev fwB3 : Ev.S := sWith 3 (sFor (iN 3) (gNm 8) fwB4)
abbrev fwB2 : Ev.S := sWith 7 (sFor (iN 7) (gNm 5) fwB3)
abbrev fwB1 : Ev.S := sWith 3 (sFor (iN 3) (gNm 4) fwB2)
abbrev G3 (U : List Int) (S : List Sq) (x y : Int) : Int → Option Rs := fun r => U.findSome? (G4 S x y r)
abbrev G2 (A U : List Int) (S : List Sq) (x : Int) : Int → Option Rs := fun y => A.findSome? (G3 U S x y)
abbrev G1 (A U : List Int) (S : List Sq) : Int → Option Rs := fun x => U.findSome? (G2 A U S x)
theorem fw4 (H : Small A U S) (hy : y ∈ U) (h10 : s10.fr = true) : Wp (fwB4 [.frz (.int w), .frz (.int h), .frz (sqs S), .lk (nms A), .frz (.int x), .frz (.int y), .emp, .lk (nms U), .frz (.int r), osl x9, s10, .emp, osl x12]) fun o => match G3 U S x y r with
    | some r' => ∃ e3, o = .rt r' e3 ∧ ∃ x8 x9 s10 x12, Slot.fr s10 = true ∧ e3 = [.frz (.int w), .frz (.int h), .frz (sqs S), .lk (nms A), .frz (.int x), .frz (.int y), .emp, .lk (nms U), osl x8, osl x9, s10, .emp, osl x12]
    | none => ∃ e3, o = .nx e3 ∧ ∃ x8 x9 s10 x12, Slot.fr s10 = true ∧ e3 = [.frz (.int w), .frz (.int h), .frz (sqs S), .lk (nms A), .frz (.int x), .frz (.int y), .emp, .lk (nms U), osl x8, osl x9, s10, .emp, osl x12] := by
  show Wp (sFor _ _ _ _) _
  refine wp_find (l := none) (e1 := [.frz (.int w), .frz (.int h), .frz (sqs S), .lk (nms A), .frz (.int x), .frz (.int y), .emp, .lk (nms U), .frz (.int r), osl x9, s10, .emp, osl x12]) U PyData.int (G4 S x y r) (fun e => ∃ x9 s10 x12, Slot.fr s10 = true ∧ e = [.frz (.int w), .frz (.int h), .frz (sqs S), .lk (nms A), .frz (.int x), .frz (.int y), .emp, .lk (nms U), .frz (.int r), osl x9, s10, .emp, osl x12]) (fun e => ∃ x8 x9 s10 x12, Slot.fr s10 = true ∧ e = [.frz (.int w), .frz (.int h), .frz (sqs S), .lk (nms A), .frz (.int x), .frz (.int y), .emp, .lk (nms U), osl x8, osl x9, s10, .emp, osl x12]) rfl ⟨x9, s10, x12, h10, rfl⟩ (fun l hl e he => ?_) fun e he => ?_
  · obtain ⟨x9, s10, x12, h10, rfl⟩ := he
    have g9 : ioAt [.frz (.int w), .frz (.int h), .frz (sqs S), .lk (nms A), .frz (.int x), .frz (.int y), .emp, .lk (nms U), .frz (.int r), osl x9, s10, .emp, osl x12] 9 = false := ioAt_osl (x := x9) rfl
    exact ⟨[.frz (.int w), .frz (.int h), .frz (sqs S), .lk (nms A), .frz (.int x), .frz (.int y), .emp, .lk (nms U), .frz (.int r), .frz (.int l), s10, .emp, osl x12], by simp only [gNm, g9, Bool.false_eq_true, if_false, List.set_cons_succ, List.set_cons_zero], fw_body H.s H.l (H.dif hl hy) h10⟩
  · obtain ⟨x9, s10, x12, h10, rfl⟩ := he
    exact ⟨_, rfl, some (.int r), x9, s10, x12, h10, rfl⟩
theorem fw3 (H : Small A U S) (hy : y ∈ U) (h10 : s10.fr = true) : Wp (fwB3 [.frz (.int w), .frz (.int h), .frz (sqs S), .lk (nms A), .frz (.int x), .frz (.int y), .emp, .lk (nms U), osl x8, osl x9, s10, .emp, osl x12]) fun o => match G2 A U S x y with
    | some r' => ∃ e3, o = .rt r' e3 ∧ ∃ x5 x8 x9 s10 x12, Slot.fr s10 = true ∧ e3 = [.frz (.int w), .frz (.int h), .frz (sqs S), .lk (nms A), .frz (.int x), osl x5, .emp, .lk (nms U), osl x8, osl x9, s10, .emp, osl x12]
    | none => ∃ e3, o = .nx e3 ∧ ∃ x5 x8 x9 s10 x12, Slot.fr s10 = true ∧ e3 = [.frz (.int w), .frz (.int h), .frz (sqs S), .lk (nms A), .frz (.int x), osl x5, .emp, .lk (nms U), osl x8, osl x9, s10, .emp, osl x12] := by
  show Wp (sFor _ _ _ _) _
  refine wp_find (l := none) (e1 := [.frz (.int w), .frz (.int h), .frz (sqs S), .lk (nms A), .frz (.int x), .frz (.int y), .emp, .lk (nms U), osl x8, osl x9, s10, .emp, osl x12]) A PyData.int (G3 U S x y) (fun e => ∃ x8 x9 s10 x12, Slot.fr s10 = true ∧ e = [.frz (.int w), .frz (.int h), .frz (sqs S), .lk (nms A), .frz (.int x), .frz (.int y), .emp, .lk (nms U), osl x8, osl x9, s10, .emp, osl x12]) (fun e => ∃ x5 x8 x9 s10 x12, Slot.fr s10 = true ∧ e = [.frz (.int w), .frz (.int h), .frz (sqs S), .lk (nms A), .frz (.int x), osl x5, .emp, .lk (nms U), osl x8, osl x9, s10, .emp, osl x12]) rfl ⟨x8, x9, s10, x12, h10, rfl⟩ (fun r hr e he => ?_) fun e he => ?_
  · obtain ⟨x8, x9, s10, x12, h10, rfl⟩ := he
    have g8 : ioAt [.frz (.int w), .frz (.int h), .frz (sqs S), .lk (nms A), .frz (.int x), .frz (.int y), .emp, .lk (nms U), osl x8, osl x9, s10, .emp, osl x12] 8 = false := ioAt_osl (x := x8) rfl
    exact ⟨[.frz (.int w), .frz (.int h), .frz (sqs S), .lk (nms A), .frz (.int x), .frz (.int y), .emp, .lk (nms U), .frz (.int r), osl x9, s10, .emp, osl x12], by simp only [gNm, g8, Bool.false_eq_true, if_false, List.set_cons_succ, List.set_cons_zero], fw4 H hy h10⟩
  · obtain ⟨x8, x9, s10, x12, h10, rfl⟩ := he
    exact ⟨_, rfl, some (.int y), x8, x9, s10, x12, h10, rfl⟩
theorem fw2 (H : Small A U S) (h10 : s10.fr = true) : Wp (fwB2 [.frz (.int w), .frz (.int h), .frz (sqs S), .lk (nms A), .frz (.int x), osl x5, .emp, .own (nms U), osl x8, osl x9, s10, .emp, osl x12]) fun o => match G1 A U S x with
    | some r' => ∃ e3, o = .rt r' e3 ∧ ∃ x4 x5 x8 x9 s10 x12, Slot.fr s10 = true ∧ e3 = [.frz (.int w), .frz (.int h), .frz (sqs S), .lk (nms A), osl x4, osl x5, .emp, .own (nms U), osl x8, osl x9, s10, .emp, osl x12]
    | none => ∃ e3, o = .nx e3 ∧ ∃ x4 x5 x8 x9 s10 x12, Slot.fr s10 = true ∧ e3 = [.frz (.int w), .frz (.int h), .frz (sqs S), .lk (nms A), osl x4, osl x5, .emp, .own (nms U), osl x8, osl x9, s10, .emp, osl x12] := by
  show Wp (sFor _ _ _ _) _
  refine wp_find (l := some 7) (e1 := [.frz (.int w), .frz (.int h), .frz (sqs S), .lk (nms A), .frz (.int x), osl x5, .emp, .lk (nms U), osl x8, osl x9, s10, .emp, osl x12]) U PyData.int (G2 A U S x) (fun e => ∃ x5 x8 x9 s10 x12, Slot.fr s10 = true ∧ e = [.frz (.int w), .frz (.int h), .frz (sqs S), .lk (nms A), .frz (.int x), osl x5, .emp, .lk (nms U), osl x8, osl x9, s10, .emp, osl x12]) (fun e => ∃ x4 x5 x8 x9 s10 x12, Slot.fr s10 = true ∧ e = [.frz (.int w), .frz (.int h), .frz (sqs S), .lk (nms A), osl x4, osl x5, .emp, .own (nms U), osl x8, osl x9, s10, .emp, osl x12]) rfl ⟨x5, x8, x9, s10, x12, h10, rfl⟩ (fun y hy e he => ?_) fun e he => ?_
  · obtain ⟨x5, x8, x9, s10, x12, h10, rfl⟩ := he
    have g5 : ioAt [.frz (.int w), .frz (.int h), .frz (sqs S), .lk (nms A), .frz (.int x), osl x5, .emp, .lk (nms U), osl x8, osl x9, s10, .emp, osl x12] 5 = false := ioAt_osl (x := x5) rfl
    exact ⟨[.frz (.int w), .frz (.int h), .frz (sqs S), .lk (nms A), .frz (.int x), .frz (.int y), .emp, .lk (nms U), osl x8, osl x9, s10, .emp, osl x12], by simp only [gNm, g5, Bool.false_eq_true, if_false, List.set_cons_succ, List.set_cons_zero], fw3 H hy h10⟩
  · obtain ⟨x5, x8, x9, s10, x12, h10, rfl⟩ := he
    exact ⟨_, rfl, some (.int x), x5, x8, x9, s10, x12, h10, rfl⟩
theorem fw1 (H : Small A U S) : Wp (fwB1 [.frz (.int w), .frz (.int h), .frz (sqs S), .own (nms A), .emp, .emp, .emp, .own (nms U), .emp, .emp, .emp, .emp, .emp]) fun o => match fndL A U S with
    | some r' => ∃ e3, o = .rt r' e3
    | none => ∃ e3, o = .nx e3 := by
  have hw : Wp (fwB1 [.frz (.int w), .frz (.int h), .frz (sqs S), .own (nms A), .emp, .emp, .emp, .own (nms U), .emp, .emp, .emp, .emp, .emp]) fun o => match fndL A U S with
    | some r' => ∃ e3, o = .rt r' e3 ∧ True
    | none => ∃ e3, o = .nx e3 ∧ True := by
    show Wp (sFor _ _ _ _) _
    refine wp_find (l := some 3) (e1 := [.frz (.int w), .frz (.int h), .frz (sqs S), .lk (nms A), .emp, .emp, .emp, .own (nms U), .emp, .emp, .emp, .emp, .emp]) A PyData.int (G1 A U S) (fun e => ∃ x4 x5 x8 x9 s10 x12, Slot.fr s10 = true ∧ e = [.frz (.int w), .frz (.int h), .frz (sqs S), .lk (nms A), osl x4, osl x5, .emp, .own (nms U), osl x8, osl x9, s10, .emp, osl x12]) (fun e => True) rfl ⟨none, none, none, none, .emp, none, rfl, rfl⟩ (fun x hx e he => ?_) fun e he => ?_
    · obtain ⟨x4, x5, x8, x9, s10, x12, h10, rfl⟩ := he
      have g4 : ioAt [.frz (.int w), .frz (.int h), .frz (sqs S), .lk (nms A), osl x4, osl x5, .emp, .own (nms U), osl x8, osl x9, s10, .emp, osl x12] 4 = false := ioAt_osl (x := x4) rfl
      exact ⟨[.frz (.int w), .frz (.int h), .frz (sqs S), .lk (nms A), .frz (.int x), osl x5, .emp, .own (nms U), osl x8, osl x9, s10, .emp, osl x12], by simp only [gNm, g4, Bool.false_eq_true, if_false, List.set_cons_succ, List.set_cons_zero], fw2 H h10⟩
    · obtain ⟨x4, x5, x8, x9, s10, x12, h10, rfl⟩ := he
      exact ⟨_, rfl, trivial⟩
  refine hw.mono fun o ho => ?_
  cases hf : fndL A U S with
  | some r => rw [hf] at ho; obtain ⟨e, h1, _⟩ := ho; exact ⟨e, h1⟩
  | none => rw [hf] at ho; obtain ⟨e, h1, _⟩ := ho; exact ⟨e, h1⟩
theorem fndL_shr {r' : Rs} (h : fndL A U S = some r') : ∃ x y r l, r' = .shr (resD x y r l) := by
  obtain ⟨x, _, h⟩ := List.exists_of_findSome?_eq_some h
  obtain ⟨y, _, h⟩ := List.exists_of_findSome?_eq_some h
  obtain ⟨r, _, h⟩ := List.exists_of_findSome?_eq_some h
  obtain ⟨l, _, h⟩ := List.exists_of_findSome?_eq_some h
  split at h
  · cases h; exact ⟨x, y, r, l, rfl⟩
  · cases h
abbrev acrL (w : Int) (S : List Sq) : List Int := Ev.srt ([0, w] ++ S.map (·.a))
abbrev upL (h : Int) (S : List Sq) : List Int := Ev.srt ([0, h] ++ S.map (·.b))
theorem opSorted_ints (ns : List Int) : opSortedK (nms ns) = some (.new (nms (Ev.srt ns))) := opSorted_dat ns (ht := .inr fun _ => rfl)
theorem sp_first (H : Small (acrL w S) (upL h S) S) (hS : S.length < 60) : fd__law_first_within [.int w, .int h, sqs S] = some (ansR (fndL (acrL w S) (upL h S) S), []) := by
  refine fnF_ok rfl ?_
  show Wp (ev__law_first_within [.frz (.int w), .frz (.int h), .frz (sqs S), .emp, .emp, .emp, .emp, .emp, .emp, .emp, .emp, .emp, .emp]) _
  unfold ev__law_first_within
  have h2s : (2 : Nat) ≤ sizeLine := by rw [sizeLine_eq]; omega
  have hsz : 2 + S.length ≤ sizeLine := by rw [sizeLine_eq]; omega
  have cA := eComp_ty (it := iN 2) (tg := gTp 3 (gsCons (gNm 4) (gsCons (gNm 5) (gsCons (gNm 6) (gsNil))))) (t := tYes') (f := eV 4) (vs := [4, 5, 6]) (l := none) (e := [.frz (.int w), .frz (.int h), .frz (sqs S), .emp, .emp, .emp, .emp, .emp, .emp, .emp, .emp, .emp, .emp]) (e1 := [.frz (.int w), .frz (.int h), .frz (sqs S), .emp, .emp, .emp, .emp, .emp, .emp, .emp, .emp, .emp, .emp]) (e3 := [.frz (.int w), .frz (.int h), .frz (sqs S), .emp, .emp, .emp, .emp, .emp, .emp, .emp, .emp, .emp, .emp]) S sqD PyData.int (fun _ => true) (fun s => s.a) rfl rfl rfl (fun s hs => ⟨[.frz (.int w), .frz (.int h), .frz (sqs S), .emp, .frz (.int s.a), .frz (.int s.b), .frz (.int s.c), .emp, .emp, .emp, .emp, .emp, .emp], rfl, rfl, rfl, rfl, fun _ => ⟨.shr (.int s.a), rfl, rfl⟩⟩)
  rw [filter_all] at cA
  have wA : eWith 2 (eComp (iN 2) (gTp 3 (gsCons (gNm 4) (gsCons (gNm 5) (gsCons (gNm 6) (gsNil))))) (tYes') (eV 4) [4, 5, 6]) [.frz (.int w), .frz (.int h), .frz (sqs S), .emp, .emp, .emp, .emp, .emp, .emp, .emp, .emp, .emp, .emp] = some (.new (nms (S.map (·.a))), [.frz (.int w), .frz (.int h), .frz (sqs S), .emp, .emp, .emp, .emp, .emp, .emp, .emp, .emp, .emp, .emp]) := cA
  have oA : opAdd (nms [0, w]) (nms (S.map (·.a))) = some (.new (nms ([0, w] ++ S.map (·.a)))) := by
    simp [opAdd]; omega
  refine wp_asg (r := .new (nms (acrL w S))) (e1 := [.frz (.int w), .frz (.int h), .frz (sqs S), .emp, .emp, .emp, .emp, .emp, .emp, .emp, .emp, .emp, .emp]) (e2 := [.frz (.int w), .frz (.int h), .frz (sqs S), .own (nms (acrL w S)), .emp, .emp, .emp, .emp, .emp, .emp, .emp, .emp, .emp]) ?_ rfl ?_
  · refine eUn_eq (eBin_eq (ra := .new (nms [0, w])) ?_ wA rfl rfl oA) rfl (opSorted_ints _)
    simp only [eList, adCons, adNil, eV, eC, List.getElem?_cons_zero, bind, Option.bind, take, pure, List.length_cons, List.length_nil, Nat.zero_add, Nat.reduceAdd, h2s, if_true]
    rfl
  have cU := eComp_ty (it := iN 2) (tg := gTp 3 (gsCons (gNm 4) (gsCons (gNm 5) (gsCons (gNm 6) (gsNil))))) (t := tYes') (f := eV 5) (vs := [4, 5, 6]) (l := none) (e := [.frz (.int w), .frz (.int h), .frz (sqs S), .own (nms (acrL w S)), .emp, .emp, .emp, .emp, .emp, .emp, .emp, .emp, .emp]) (e1 := [.frz (.int w), .frz (.int h), .frz (sqs S), .own (nms (acrL w S)), .emp, .emp, .emp, .emp, .emp, .emp, .emp, .emp, .emp]) (e3 := [.frz (.int w), .frz (.int h), .frz (sqs S), .own (nms (acrL w S)), .emp, .emp, .emp, .emp, .emp, .emp, .emp, .emp, .emp]) S sqD PyData.int (fun _ => true) (fun s => s.b) rfl rfl rfl (fun s hs => ⟨[.frz (.int w), .frz (.int h), .frz (sqs S), .own (nms (acrL w S)), .frz (.int s.a), .frz (.int s.b), .frz (.int s.c), .emp, .emp, .emp, .emp, .emp, .emp], rfl, rfl, rfl, rfl, fun _ => ⟨.shr (.int s.b), rfl, rfl⟩⟩)
  rw [filter_all] at cU
  have wU : eWith 2 (eComp (iN 2) (gTp 3 (gsCons (gNm 4) (gsCons (gNm 5) (gsCons (gNm 6) (gsNil))))) (tYes') (eV 5) [4, 5, 6]) [.frz (.int w), .frz (.int h), .frz (sqs S), .own (nms (acrL w S)), .emp, .emp, .emp, .emp, .emp, .emp, .emp, .emp, .emp] = some (.new (nms (S.map (·.b))), [.frz (.int w), .frz (.int h), .frz (sqs S), .own (nms (acrL w S)), .emp, .emp, .emp, .emp, .emp, .emp, .emp, .emp, .emp]) := cU
  have oU : opAdd (nms [0, h]) (nms (S.map (·.b))) = some (.new (nms ([0, h] ++ S.map (·.b)))) := by
    simp [opAdd]; omega
  refine wp_asg (r := .new (nms (upL h S))) (e1 := [.frz (.int w), .frz (.int h), .frz (sqs S), .own (nms (acrL w S)), .emp, .emp, .emp, .emp, .emp, .emp, .emp, .emp, .emp]) (e2 := [.frz (.int w), .frz (.int h), .frz (sqs S), .own (nms (acrL w S)), .emp, .emp, .emp, .own (nms (upL h S)), .emp, .emp, .emp, .emp, .emp]) ?_ rfl ?_
  · refine eUn_eq (eBin_eq (ra := .new (nms [0, h])) ?_ wU rfl rfl oU) rfl (opSorted_ints _)
    simp only [eList, adCons, adNil, eV, eC, List.getElem?_cons_zero, List.getElem?_cons_succ, bind, Option.bind, take, pure, List.length_cons, List.length_nil, Nat.zero_add, Nat.reduceAdd, h2s, if_true]
    rfl
  refine wp_seq ((fw1 H).mono fun o ho => ?_)
  cases hf : fndL (acrL w S) (upL h S) S with
  | some r' =>
    rw [hf] at ho
    obtain ⟨e, rfl⟩ := ho
    obtain ⟨x, y, r, l, rfl⟩ := fndL_shr hf
    rfl
  | none =>
    rw [hf] at ho
    obtain ⟨e, rfl⟩ := ho
    exact wp_ret rfl rfl
end
end LawX
set_option Elab.async false
set_option linter.all false
set_option maxRecDepth 100000
set_option maxHeartbeats 2000000
namespace LawX
open PySem PySem.Spec PyProof.Rows L2 Ev PySem.W
theorem asKeys_int : ∀ xs : List Int, asKeys (xs.map .int) = some (xs.map Sum.inl)
  | [] => rfl
  | x :: xs => by
    simp only [List.map_cons, asKeys, asKeys_int xs]
    rfl
theorem ddK_int (xs : List Int) : (ddK (xs.map Sum.inl)).length = xs.length ↔ xs.Nodup := by
  have h := ddK_len_iff (xs.map Sum.inl)
  rw [List.length_map] at h
  rw [h]
  exact ⟨fun q => List.Pairwise.of_map Sum.inl (fun _ _ hne e => hne (congrArg _ e)) q, fun q => List.Pairwise.map Sum.inl (fun a b hne e => hne (Sum.inl.inj e)) q⟩
def sides (S : List Sq) : List Int := S.map (·.c)
theorem sp_perfect (S : List Sq) (hS : S.length < 60) : fd_is_perfect [sqs S] = some (.shr (.bool (decide (sides S).Nodup)), []) := by
  refine fnF_ok rfl ?_
  show Wp (ev_is_perfect [.frz (sqs S), .emp, .emp]) _
  have cA := eComp_ty (it := iN 0) (tg := gTp 3 (gsCons (gNm 1) (gsCons (gNm 1) (gsCons (gNm 2) (gsNil))))) (t := tYes') (f := eV 2) (vs := [1, 2]) (l := none) (e := [.frz (sqs S), .emp, .emp]) (e1 := [.frz (sqs S), .emp, .emp]) (e3 := [.frz (sqs S), .emp, .emp]) S sqD PyData.int (fun _ => true) (fun s => s.c) rfl rfl rfl (fun s hs => ⟨[.frz (sqs S), .frz (.int s.b), .frz (.int s.c)], rfl, rfl, rfl, rfl, fun _ => ⟨.shr (.int s.c), rfl, rfl⟩⟩)
  rw [filter_all] at cA
  have wA : eWith 0 (eComp (iN 0) (gTp 3 (gsCons (gNm 1) (gsCons (gNm 1) (gsCons (gNm 2) (gsNil))))) (tYes') (eV 2) [1, 2]) [.frz (sqs S), .emp, .emp] = some (.new (nms (sides S)), [.frz (sqs S), .emp, .emp]) := cA
  have hl : opLenSet (nms (sides S)) = some (.shr (.int (ddK ((sides S).map Sum.inl)).length)) := by
    have h1 : ((sides S).map (Sum.inl : Int → Key)).length < 4000 := by rw [List.length_map, sides, List.length_map]; omega
    simp only [opLenSet, asKeys_int, h1, if_true]
  have hn : decide (((ddK ((sides S).map Sum.inl)).length : Int) = ((S.map sqD).length : Nat)) = decide (sides S).Nodup := by
    rw [decide_eq_decide, ← ddK_int]
    simp only [sides, List.length_map]
    omega
  refine wp_ret (r := .shr (.bool (decide (sides S).Nodup))) (e1 := [.frz (sqs S), .emp, .emp]) ?_ rfl
  rw [← hn]
  exact eBin_eq (eUn_eq wA rfl hl) (eUn_eq (op := opLen) (ra := .shr (sqs S)) (r := .shr (.int (S.map sqD).length)) rfl rfl rfl) rfl rfl opEq_int
/-- no side came before -/
def noDup (ns : List Int) : Bool := decide ((((List.range ns.length).filter fun k => decide (ns.getD k 0 ∈ ns.take k)).length : Int) = 0)
theorem noDup_iff (ns : List Int) : noDup ns = decide ns.Nodup := by
  unfold noDup
  rw [decide_eq_decide]
  have e : ((((List.range ns.length).filter fun k => decide (ns.getD k 0 ∈ ns.take k)).length : Int) = 0) ↔ ∀ k < ns.length, ns.getD k 0 ∉ ns.take k := by
    have : ((((List.range ns.length).filter fun k => decide (ns.getD k 0 ∈ ns.take k)).length : Int) = 0) ↔ ((List.range ns.length).filter fun k => decide (ns.getD k 0 ∈ ns.take k)) = [] := by
      rw [← List.length_eq_zero_iff]; omega
    rw [this, List.filter_eq_nil_iff]
    simp only [List.mem_range, decide_eq_true_eq]
  rw [e]
  have gd : ∀ k (h : k < ns.length), ns.getD k 0 = ns[k] := fun k h => by rw [List.getD_eq_getElem?_getD, List.getElem?_eq_getElem h]; rfl
  constructor
  · intro h
    rw [List.Nodup, List.pairwise_iff_getElem]
    intro i j hi hj hij he
    refine h j hj ?_
    rw [gd j hj, ← he]
    exact List.mem_iff_getElem.mpr ⟨i, by rw [List.length_take]; omega, by rw [List.getElem_take]⟩
  · intro h k hk hm
    rw [gd k hk] at hm
    obtain ⟨i, hi, he⟩ := List.mem_iff_getElem.mp hm
    rw [List.length_take] at hi
    rw [List.getElem_take] at he
    have h1 : ns[i]? = ns[k]? := by
      rw [List.getElem?_eq_getElem hk, List.getElem?_eq_getElem (show i < ns.length by omega)]
      exact congrArg some he
    have := (List.getElem?_inj (by omega) h).mp h1
    omega
/-! ### same -/
theorem same_bool (n : Nat) (a b : Bool) : fr__law_same (n + 1) [.bool a, .bool b] = some (.shr (.bool (decide (a = b))), []) := by
  simp only [fr__law_same]
  generalize fr__law_same n = self
  refine fnF_ok rfl ?_
  show Wp (ev__law_same self [.frz (.bool a), .frz (.bool b), .emp, .emp]) _
  refine ⟨.rt (.shr (.bool (decide (a = b)))) [.frz (.bool a), .frz (.bool b), .emp, .emp], ?_, rfl⟩
  cases a <;> cases b <;> simp [ev__law_same, sSeq, sIf, sNil, sRet, tTru, tOr', tNot', asT, eUn, eBin, eV, eC, eAnd, eOr, look, Ev.settle, dTru, isaT, opIs, isNone, isBool]
theorem same_none (n : Nat) : fr__law_same (n + 1) [.none, .none] = some (.shr (.bool true), []) := by
  simp only [fr__law_same]
  generalize fr__law_same n = self
  refine fnF_ok rfl ?_
  show Wp (ev__law_same self [.frz .none, .frz .none, .emp, .emp]) _
  refine ⟨.rt (.shr (.bool true)) [.frz .none, .frz .none, .emp, .emp], ?_, rfl⟩
  simp [ev__law_same, sSeq, sIf, sNil, sRet, tTru, tOr', tNot', asT, eUn, eBin, eV, eC, eAnd, eOr, look, Ev.settle, dTru, isaT, opIs, isNone, isBool]
theorem same_int (n : Nat) (a b : Int) : fr__law_same (n + 1) [.int a, .int b] = some (.shr (.bool (decide (a = b))), []) := by
  simp only [fr__law_same]
  generalize fr__law_same n = self
  refine fnF_ok rfl ?_
  show Wp (ev__law_same self [.frz (.int a), .frz (.int b), .emp, .emp]) _
  refine ⟨.rt (.shr (.bool (decide (a = b)))) [.frz (.int a), .frz (.int b), .emp, .emp], ?_, rfl⟩
  simp [ev__law_same, sSeq, sIf, sNil, sRet, tTru, tOr', tNot', asT, eUn, eBin, eV, eC, eAnd, eOr, eNot, eBool, look, Ev.settle, dTru, isaT, opIs, isNone, isBool, opEq_int]
theorem same_res (n : Nat) (x y r l : Int) : fr__law_same (n + 2) [resD x y r l, resD x y r l] = some (.shr (.bool true), []) := by
  have hi := fun k => same_int n k k
  rw [show fr__law_same (n + 2) = fnF 2 4 (ev__law_same (fr__law_same (n + 1))) from rfl]
  generalize fr__law_same (n + 1) = self at hi ⊢
  refine fnF_ok rfl ?_
  show Wp (ev__law_same self [.frz (resD x y r l), .frz (resD x y r l), .emp, .emp]) _
  unfold resD
  generalize r - x = u
  generalize l - y = v
  have b0 : L2.atI [PyData.int x, .int y, .int u, .int v] 0 = some (.int x) := L2.atI_nat (j := 0) rfl
  have b1 : L2.atI [PyData.int x, .int y, .int u, .int v] 1 = some (.int y) := L2.atI_nat (j := 1) rfl
  have b2 : L2.atI [PyData.int x, .int y, .int u, .int v] 2 = some (.int u) := L2.atI_nat (j := 2) rfl
  have b3 : L2.atI [PyData.int x, .int y, .int u, .int v] 3 = some (.int v) := L2.atI_nat (j := 3) rfl
  have hr : List.range 4 = [0, 1, 2, 3] := rfl
  have hn : opNe (.int 4) (.int 4) = some (.shr (.bool false)) := opNe_int.trans (by simp)
  refine ⟨.rt (.shr (.bool true)) [.frz (.tuple [.int x, .int y, .int u, .int v]), .frz (.tuple [.int x, .int y, .int u, .int v]), .emp, .frz (.int 3)], ?_, rfl⟩
  simp [ev__law_same, sSeq, sIf, sNil, sRet, tTru, tOr', tAnd', tNot', asT, eUn, eBin, eV, eC, eAnd, eOr, look, Ev.settle, dTru, isaT, opIs, isNone, isBool, opLen, hn, sFor, iR1, hr, loopF, gNm, ioAt, callF, arCons, arNil, eSub, opSub2, b0, b1, b2, b3, subK, takeAll, take, hi, fitR, scalD, unlockO, unlockE]
end LawX
set_option Elab.async false
set_option linter.all false
set_option maxRecDepth 100000
set_option maxHeartbeats 2000000
namespace LawX
open PySem PySem.Spec PyProof.Rows L2 Ev PySem.W
/-- squares within, all sides touched -/
structure Pt (w h : Int) (S : List Sq) : Prop where
  wid : 0 < w ∧ w ≤ 60
  hei : 0 < h ∧ h ≤ 60
  ins : ∀ s ∈ S, 0 ≤ s.a ∧ 0 ≤ s.b ∧ 0 < s.c ∧ s.a + s.c ≤ w ∧ s.b + s.c ≤ h
  l : ∃ s ∈ S, s.a = 0
  t : ∃ s ∈ S, s.b = 0
  r : ∃ s ∈ S, s.a + s.c = w
  b : ∃ s ∈ S, s.b + s.c = h
section
variable {ns : List Int} {p p' : List D} {w h s0 : Int} {S : List Sq} {x6 x7 : Option D} {es : List Slot}
theorem dr (hp : PoolOk ns p) (L : Int) (h1 : 0 < L) (h2 : L < 1000000) (es : List Slot) : ∃ (v : Nat) (p' : List D), PoolOk ns p' ∧ (v : Int) < L ∧ callW fd__law_draw (arCons (eV 0) (arCons (eC (.int L)) (arNil))) (.io (.list p) :: es) = some (.shr (.int v), .io (.list p') :: es) := by
  obtain ⟨v, p', q, hp', hv⟩ := draw_at hp h1 h2
  refine ⟨v, p', hp', hv, ?_⟩
  generalize fd__law_draw = g at *
  simp only [eC, callW, arCons, arNil, eV, List.getElem?_cons_succ, List.getElem?_cons_zero, bind, Option.bind, Ev.settle, pure, takeAll, take, lentOf, q, fitR, scalD, if_true, setLent, List.set_cons_succ, List.set_cons_zero]
theorem nxt (hp : PoolOk ns p) (es : List Slot) : ∃ p', PoolOk ns p' ∧ sExpr (callW fd__law_next (arCons (eV 0) (arNil))) (.io (.list p) :: es) = some (.nx (.io (.list p') :: es)) := by
  obtain ⟨p', q, hp'⟩ := next_ok hp
  generalize fd__law_next = g at *
  refine ⟨p', hp', ?_⟩
  simp only [sExpr, callW, arCons, arNil, eV, List.getElem?_cons_succ, List.getElem?_cons_zero, bind, Option.bind, Ev.settle, pure, takeAll, lentOf, q, fitR, scalD, if_true, setLent, List.set_cons_succ, List.set_cons_zero]
theorem pt_right (P : Pt w h S) (hw : w < 30) (hh : h < 30) : Pt (w + h) h (S ++ [⟨w, 0, h⟩]) := by
  obtain ⟨⟨w1, w2⟩, ⟨h1, h2⟩, ins, ⟨sl, l1, l2⟩, ⟨st, t1, t2⟩, _, ⟨sb, b1, b2⟩⟩ := P
  refine ⟨⟨by omega, by omega⟩, ⟨h1, h2⟩, fun s hs => ?_, ⟨sl, List.mem_append_left _ l1, l2⟩, ⟨st, List.mem_append_left _ t1, t2⟩, ⟨_, List.mem_append_right _ (List.mem_singleton.mpr rfl), rfl⟩, ⟨sb, List.mem_append_left _ b1, b2⟩⟩
  rcases List.mem_append.mp hs with z | z
  · have := ins s z; exact ⟨this.1, this.2.1, this.2.2.1, by omega, this.2.2.2.2⟩
  · rw [List.mem_singleton] at z; subst z; exact ⟨by show 0 ≤ w; omega, by show (0 : Int) ≤ 0; omega, by show 0 < h; omega, by show w + h ≤ w + h; omega, by show 0 + h ≤ h; omega⟩
theorem pt_below (P : Pt w h S) (hw : w < 30) (hh : h < 30) : Pt w (h + w) (S ++ [⟨0, h, w⟩]) := by
  obtain ⟨⟨w1, w2⟩, ⟨h1, h2⟩, ins, ⟨sl, l1, l2⟩, ⟨st, t1, t2⟩, ⟨sr, r1, r2⟩, _⟩ := P
  refine ⟨⟨w1, w2⟩, ⟨by omega, by omega⟩, fun s hs => ?_, ⟨sl, List.mem_append_left _ l1, l2⟩, ⟨st, List.mem_append_left _ t1, t2⟩, ⟨sr, List.mem_append_left _ r1, r2⟩, ⟨_, List.mem_append_right _ (List.mem_singleton.mpr rfl), rfl⟩⟩
  rcases List.mem_append.mp hs with z | z
  · have := ins s z; exact ⟨this.1, this.2.1, this.2.2.1, this.2.2.2.1, by omega⟩
  · rw [List.mem_singleton] at z; subst z; exact ⟨by show (0 : Int) ≤ 0; omega, by show 0 ≤ h; omega, by show 0 < w; omega, by show 0 + w ≤ w; omega, by show h + w ≤ h + w; omega⟩
abbrev shR (S : List Sq) (h : Int) : List Sq := S.map fun s => ⟨s.a + h, s.b, s.c⟩
abbrev shB (S : List Sq) (w : Int) : List Sq := S.map fun s => ⟨s.a, s.b + w, s.c⟩
theorem pt_left (P : Pt w h S) (hw : w < 30) (hh : h < 30) : Pt (w + h) h (shR S h ++ [⟨0, 0, h⟩]) := by
  obtain ⟨⟨w1, w2⟩, ⟨h1, h2⟩, ins, _, _, ⟨sr, r1, r2⟩, ⟨sb, b1, b2⟩⟩ := P
  refine ⟨⟨by omega, by omega⟩, ⟨h1, h2⟩, fun s hs => ?_, ⟨_, List.mem_append_right _ (List.mem_singleton.mpr rfl), rfl⟩, ⟨_, List.mem_append_right _ (List.mem_singleton.mpr rfl), rfl⟩, ⟨_, List.mem_append_left _ (List.mem_map_of_mem r1), by show sr.a + h + sr.c = w + h; omega⟩, ⟨_, List.mem_append_left _ (List.mem_map_of_mem b1), b2⟩⟩
  rcases List.mem_append.mp hs with z | z
  · obtain ⟨u, hu, rfl⟩ := List.mem_map.mp z
    have := ins u hu; exact ⟨by show 0 ≤ u.a + h; omega, this.2.1, this.2.2.1, by show u.a + h + u.c ≤ w + h; omega, this.2.2.2.2⟩
  · rw [List.mem_singleton] at z; subst z; exact ⟨by show (0 : Int) ≤ 0; omega, by show (0 : Int) ≤ 0; omega, by show 0 < h; omega, by show 0 + h ≤ w + h; omega, by show 0 + h ≤ h; omega⟩
theorem pt_above (P : Pt w h S) (hw : w < 30) (hh : h < 30) : Pt w (h + w) (shB S w ++ [⟨0, 0, w⟩]) := by
  obtain ⟨⟨w1, w2⟩, ⟨h1, h2⟩, ins, _, _, ⟨sr, r1, r2⟩, ⟨sb, b1, b2⟩⟩ := P
  refine ⟨⟨w1, w2⟩, ⟨by omega, by omega⟩, fun s hs => ?_, ⟨_, List.mem_append_right _ (List.mem_singleton.mpr rfl), rfl⟩, ⟨_, List.mem_append_right _ (List.mem_singleton.mpr rfl), rfl⟩, ⟨_, List.mem_append_left _ (List.mem_map_of_mem r1), r2⟩, ⟨_, List.mem_append_left _ (List.mem_map_of_mem b1), by show sb.b + w + sb.c = h + w; omega⟩⟩
  rcases List.mem_append.mp hs with z | z
  · obtain ⟨u, hu, rfl⟩ := List.mem_map.mp z
    have := ins u hu; exact ⟨this.1, by show 0 ≤ u.b + w; omega, this.2.2.1, this.2.2.2.1, by show u.b + w + u.c ≤ h + w; omega⟩
  · rw [List.mem_singleton] at z; subst z; exact ⟨by show (0 : Int) ≤ 0; omega, by show (0 : Int) ≤ 0; omega, by show 0 < w; omega, by show 0 + w ≤ w; omega, by show 0 + w ≤ h + w; omega⟩
theorem opMax2_int : opMax2 (.int w) (.int h) = some (.shr (.int (max w h))) := by
  simp only [opMax2]
  try (congr 3; omega)
abbrev grow : Ev.S := (sIf (asT (eBin opLt (eBin opMax2 (eV 3) (eV 4)) (eC (.int 30))))
 (sIf (asT (eBin opEq (eV 7) (eC (.int 0))))
 (sSeq (sExpr (mOwn mAppend (eV 5) (adCons (eTup (adCons (eV 3) (adCons (eC (.int 0)) (adCons (eV 4) (adNil))))) (adNil))))
 (sAsg 3 (eBin opAdd (eV 3) (eV 4))))
 (sIf (asT (eBin opEq (eV 7) (eC (.int 1))))
 (sSeq (sExpr (mOwn mAppend (eV 5) (adCons (eTup (adCons (eC (.int 0)) (adCons (eV 4) (adCons (eV 3) (adNil))))) (adNil))))
 (sAsg 4 (eBin opAdd (eV 4) (eV 3))))
 (sIf (asT (eBin opEq (eV 7) (eC (.int 2))))
 (sSeq (sAsg 5 (eBin opAdd (eWith 5 (eComp (iN 5) (gTp 3 (gsCons (gNm 8) (gsCons (gNm 9) (gsCons (gNm 10) (gsNil))))) (tYes') (eTup (adCons (eBin opAdd (eV 8) (eV 4)) (adCons (eV 9) (adCons (eV 10) (adNil))))) [8, 9, 10])) (eList (adCons (eTup (adCons (eC (.int 0)) (adCons (eC (.int 0)) (adCons (eV 4) (adNil))))) (adNil)))))
 (sAsg 3 (eBin opAdd (eV 3) (eV 4))))
 (sSeq (sAsg 5 (eBin opAdd (eWith 5 (eComp (iN 5) (gTp 3 (gsCons (gNm 8) (gsCons (gNm 9) (gsCons (gNm 10) (gsNil))))) (tYes') (eTup (adCons (eV 8) (adCons (eBin opAdd (eV 9) (eV 3)) (adCons (eV 10) (adNil))))) [8, 9, 10])) (eList (adCons (eTup (adCons (eC (.int 0)) (adCons (eC (.int 0)) (adCons (eV 3) (adNil))))) (adNil)))))
 (sAsg 4 (eBin opAdd (eV 4) (eV 3)))))))
 (sNil))
theorem gr_ok {v : Nat} {Q : Out → Prop} (P : Pt w h S) (hl : S.length ≤ 20) (k : ∀ w' h' S', Pt w' h' S' → S'.length ≤ S.length + 1 → Q (.nx ((fun w h S => [.io (.list p), .frz (.int 7), .frz (.int s0), .frz (.int w), .frz (.int h), .own (sqs S), osl x6, .frz (.int v), .emp, .emp, .emp, .emp, .emp]) w' h' S'))) : Wp (grow [.io (.list p), .frz (.int 7), .frz (.int s0), .frz (.int w), .frz (.int h), .own (sqs S), osl x6, .frz (.int v), .emp, .emp, .emp, .emp, .emp]) Q := by
  have h3 : (3 : Nat) ≤ sizeLine := by rw [sizeLine_eq]; omega
  have h1 : (1 : Nat) ≤ sizeLine := by rw [sizeLine_eq]; omega
  have hs0 : S.length < sizeLine := by rw [sizeLine_eq]; omega
  have hs1 : S.length + 1 ≤ sizeLine := by rw [sizeLine_eq]; omega
  refine wp_if (b := decide (max w h < 30)) (e1 := [.io (.list p), .frz (.int 7), .frz (.int s0), .frz (.int w), .frz (.int h), .own (sqs S), osl x6, .frz (.int v), .emp, .emp, .emp, .emp, .emp]) (asT_eq ?_) (fun hb => ?_) fun _ => ⟨_, rfl, k w h S P (by omega)⟩
  · exact eBin_eq (eBin_eq (ra := .shr (.int w)) (rb := .shr (.int h)) rfl rfl rfl rfl opMax2_int) (rb := .shr (.int 30)) rfl rfl rfl opLt_int
  have hm : max w h < 30 := by simpa using hb
  have hw : w < 30 := by omega
  have hh : h < 30 := by omega
  refine wp_if (b := decide ((v : Int) = 0)) (e1 := [.io (.list p), .frz (.int 7), .frz (.int s0), .frz (.int w), .frz (.int h), .own (sqs S), osl x6, .frz (.int v), .emp, .emp, .emp, .emp, .emp]) (asT_eq (eBin_eq (ra := .shr (.int v)) (rb := .shr (.int 0)) rfl rfl rfl rfl opEq_int)) (fun _ => ?_) fun _ => ?_
  · refine ⟨_, ?_, k (w + h) h (S ++ [⟨w, 0, h⟩]) (pt_right P hw hh) (by simp)⟩
    simp only [sSeq, sExpr, mOwn, ownAt, eTup, adCons, adNil, eC, eV, sAsg, eBin, List.getElem?_cons_succ, List.getElem?_cons_zero, bind, Option.bind, Ev.settle, pure, take, look, List.length_cons, List.length_nil, Nat.zero_add, Nat.reduceAdd, h3, if_true, mAppend, List.length_map, hs0, List.set_cons_succ, List.set_cons_zero, opAdd, store, ioAt, Bool.false_eq_true, if_false, sqs, List.map_append, List.map_cons, List.map_nil]
  refine wp_if (b := decide ((v : Int) = 1)) (e1 := [.io (.list p), .frz (.int 7), .frz (.int s0), .frz (.int w), .frz (.int h), .own (sqs S), osl x6, .frz (.int v), .emp, .emp, .emp, .emp, .emp]) (asT_eq (eBin_eq (ra := .shr (.int v)) (rb := .shr (.int 1)) rfl rfl rfl rfl opEq_int)) (fun _ => ?_) fun _ => ?_
  · refine ⟨_, ?_, k w (h + w) (S ++ [⟨0, h, w⟩]) (pt_below P hw hh) (by simp)⟩
    simp only [sSeq, sExpr, mOwn, ownAt, eTup, adCons, adNil, eC, eV, sAsg, eBin, List.getElem?_cons_succ, List.getElem?_cons_zero, bind, Option.bind, Ev.settle, pure, take, look, List.length_cons, List.length_nil, Nat.zero_add, Nat.reduceAdd, h3, if_true, mAppend, List.length_map, hs0, List.set_cons_succ, List.set_cons_zero, opAdd, store, ioAt, Bool.false_eq_true, if_false, sqs, List.map_append, List.map_cons, List.map_nil]
  have hadd : ∀ (A : List Sq) (q : Sq), A.length = S.length → opAdd (sqs A) (.list [sqD q]) = some (.new (sqs (A ++ [q]))) := fun A q hA => by
    simp [opAdd, hA, hs1]
  refine wp_if (b := decide ((v : Int) = 2)) (e1 := [.io (.list p), .frz (.int 7), .frz (.int s0), .frz (.int w), .frz (.int h), .own (sqs S), osl x6, .frz (.int v), .emp, .emp, .emp, .emp, .emp]) (asT_eq (eBin_eq (ra := .shr (.int v)) (rb := .shr (.int 2)) rfl rfl rfl rfl opEq_int)) (fun _ => ?_) fun _ => ?_
  · refine ⟨_, ?_, k (w + h) h (shR S h ++ [⟨0, 0, h⟩]) (pt_left P hw hh) (by simp)⟩
    have hc := eComp_ty (it := iN 5) (tg := gTp 3 (gsCons (gNm 8) (gsCons (gNm 9) (gsCons (gNm 10) (gsNil))))) (t := tYes') (f := eTup (adCons (eBin opAdd (eV 8) (eV 4)) (adCons (eV 9) (adCons (eV 10) (adNil))))) (vs := [8, 9, 10]) (l := some 5) (e := [.io (.list p), .frz (.int 7), .frz (.int s0), .frz (.int w), .frz (.int h), .own (sqs S), osl x6, .frz (.int v), .emp, .emp, .emp, .emp, .emp]) (e1 := [.io (.list p), .frz (.int 7), .frz (.int s0), .frz (.int w), .frz (.int h), .lk (sqs S), osl x6, .frz (.int v), .emp, .emp, .emp, .emp, .emp]) (e3 := [.io (.list p), .frz (.int 7), .frz (.int s0), .frz (.int w), .frz (.int h), .own (sqs S), osl x6, .frz (.int v), .emp, .emp, .emp, .emp, .emp]) S sqD sqD (fun _ => true) (fun s => ⟨s.a + h, s.b, s.c⟩) rfl rfl rfl (fun s hs => ⟨[.io (.list p), .frz (.int 7), .frz (.int s0), .frz (.int w), .frz (.int h), .lk (sqs S), osl x6, .frz (.int v), .frz (.int s.a), .frz (.int s.b), .frz (.int s.c), .emp, .emp], rfl, rfl, rfl, rfl, fun _ => ⟨.shr (sqD ⟨s.a + h, s.b, s.c⟩), by
      simp only [eTup, adCons, adNil, eBin, eV, List.getElem?_cons_succ, List.getElem?_cons_zero, bind, Option.bind, look, Ev.settle, opAdd, take, pure, List.length_cons, List.length_nil, Nat.zero_add, Nat.reduceAdd, h3, if_true], rfl⟩⟩)
    rw [filter_all] at hc
    have hw5 : eWith 5 (eComp (iN 5) (gTp 3 (gsCons (gNm 8) (gsCons (gNm 9) (gsCons (gNm 10) (gsNil))))) (tYes') (eTup (adCons (eBin opAdd (eV 8) (eV 4)) (adCons (eV 9) (adCons (eV 10) (adNil))))) [8, 9, 10]) [.io (.list p), .frz (.int 7), .frz (.int s0), .frz (.int w), .frz (.int h), .own (sqs S), osl x6, .frz (.int v), .emp, .emp, .emp, .emp, .emp] = some (.new (sqs (shR S h)), [.io (.list p), .frz (.int 7), .frz (.int s0), .frz (.int w), .frz (.int h), .own (sqs S), osl x6, .frz (.int v), .emp, .emp, .emp, .emp, .emp]) := hc
    have ha := hadd (shR S h) ⟨0, 0, h⟩ (List.length_map _)
    generalize eWith 5 (eComp (iN 5) (gTp 3 (gsCons (gNm 8) (gsCons (gNm 9) (gsCons (gNm 10) (gsNil))))) (tYes') (eTup (adCons (eBin opAdd (eV 8) (eV 4)) (adCons (eV 9) (adCons (eV 10) (adNil))))) [8, 9, 10]) = G at *
    simp only [sSeq, sAsg, eBin, hw5, eList, eTup, adCons, adNil, eC, eV, List.getElem?_cons_succ, List.getElem?_cons_zero, bind, Option.bind, Ev.settle, pure, take, look, List.length_cons, List.length_nil, Nat.zero_add, Nat.reduceAdd, h3, h1, if_true, ha, store, ioAt, Bool.false_eq_true, if_false, List.set_cons_succ, List.set_cons_zero]
    rfl
  · refine ⟨_, ?_, k w (h + w) (shB S w ++ [⟨0, 0, w⟩]) (pt_above P hw hh) (by simp)⟩
    have hc := eComp_ty (it := iN 5) (tg := gTp 3 (gsCons (gNm 8) (gsCons (gNm 9) (gsCons (gNm 10) (gsNil))))) (t := tYes') (f := eTup (adCons (eV 8) (adCons (eBin opAdd (eV 9) (eV 3)) (adCons (eV 10) (adNil))))) (vs := [8, 9, 10]) (l := some 5) (e := [.io (.list p), .frz (.int 7), .frz (.int s0), .frz (.int w), .frz (.int h), .own (sqs S), osl x6, .frz (.int v), .emp, .emp, .emp, .emp, .emp]) (e1 := [.io (.list p), .frz (.int 7), .frz (.int s0), .frz (.int w), .frz (.int h), .lk (sqs S), osl x6, .frz (.int v), .emp, .emp, .emp, .emp, .emp]) (e3 := [.io (.list p), .frz (.int 7), .frz (.int s0), .frz (.int w), .frz (.int h), .own (sqs S), osl x6, .frz (.int v), .emp, .emp, .emp, .emp, .emp]) S sqD sqD (fun _ => true) (fun s => ⟨s.a, s.b + w, s.c⟩) rfl rfl rfl (fun s hs => ⟨[.io (.list p), .frz (.int 7), .frz (.int s0), .frz (.int w), .frz (.int h), .lk (sqs S), osl x6, .frz (.int v), .frz (.int s.a), .frz (.int s.b), .frz (.int s.c), .emp, .emp], rfl, rfl, rfl, rfl, fun _ => ⟨.shr (sqD ⟨s.a, s.b + w, s.c⟩), by
      simp only [eTup, adCons, adNil, eBin, eV, List.getElem?_cons_succ, List.getElem?_cons_zero, bind, Option.bind, look, Ev.settle, opAdd, take, pure, List.length_cons, List.length_nil, Nat.zero_add, Nat.reduceAdd, h3, if_true], rfl⟩⟩)
    rw [filter_all] at hc
    have hw5 : eWith 5 (eComp (iN 5) (gTp 3 (gsCons (gNm 8) (gsCons (gNm 9) (gsCons (gNm 10) (gsNil))))) (tYes') (eTup (adCons (eV 8) (adCons (eBin opAdd (eV 9) (eV 3)) (adCons (eV 10) (adNil))))) [8, 9, 10]) [.io (.list p), .frz (.int 7), .frz (.int s0), .frz (.int w), .frz (.int h), .own (sqs S), osl x6, .frz (.int v), .emp, .emp, .emp, .emp, .emp] = some (.new (sqs (shB S w)), [.io (.list p), .frz (.int 7), .frz (.int s0), .frz (.int w), .frz (.int h), .own (sqs S), osl x6, .frz (.int v), .emp, .emp, .emp, .emp, .emp]) := hc
    have ha := hadd (shB S w) ⟨0, 0, w⟩ (List.length_map _)
    generalize eWith 5 (eComp (iN 5) (gTp 3 (gsCons (gNm 8) (gsCons (gNm 9) (gsCons (gNm 10) (gsNil))))) (tYes') (eTup (adCons (eV 8) (adCons (eBin opAdd (eV 9) (eV 3)) (adCons (eV 10) (adNil))))) [8, 9, 10]) = G at *
    simp only [sSeq, sAsg, eBin, hw5, eList, eTup, adCons, adNil, eC, eV, List.getElem?_cons_succ, List.getElem?_cons_zero, bind, Option.bind, Ev.settle, pure, take, look, List.length_cons, List.length_nil, Nat.zero_add, Nat.reduceAdd, h3, h1, if_true, ha, store, ioAt, Bool.false_eq_true, if_false, List.set_cons_succ, List.set_cons_zero]
    rfl
end
end LawX
set_option Elab.async false
set_option linter.all false
set_option maxRecDepth 100000
set_option maxHeartbeats 2000000
namespace LawX
open PySem PySem.Spec PyProof.Rows L2 Ev PySem.W
section
variable {ns : List Int} {p p' : List D} {w h s0 : Int} {S M : List Sq} {x6 x7 x8 : Option D} {es : List Slot} {hi : Nat}
theorem opSorted_sq (S : List Sq) : opSortedK (sqs S) = some (.new (sqs (Ev.srt S))) := opSorted_dat S (ht := .inl fun _ => rfl)
theorem pt_srt (P : Pt w h S) : Pt w h (Ev.srt S) := by
  have hp := srt_perm S
  obtain ⟨h1, h2, ins, ⟨a, a1, a2⟩, ⟨b, b1, b2⟩, ⟨c, c1, c2⟩, ⟨d, d1, d2⟩⟩ := P
  exact ⟨h1, h2, fun s hs => ins s (hp.mem_iff.mp hs), ⟨a, hp.mem_iff.mpr a1, a2⟩, ⟨b, hp.mem_iff.mpr b1, b2⟩, ⟨c, hp.mem_iff.mpr c1, c2⟩, ⟨d, hp.mem_iff.mpr d1, d2⟩⟩
abbrev known : List Sq := [⟨0, 0, 18⟩, ⟨18, 0, 15⟩, ⟨18, 15, 7⟩, ⟨25, 15, 8⟩, ⟨0, 18, 14⟩, ⟨14, 18, 4⟩, ⟨14, 22, 10⟩, ⟨24, 22, 1⟩, ⟨24, 23, 9⟩]
abbrev cross : List Sq := [⟨0, 0, 2⟩, ⟨2, 0, 1⟩, ⟨2, 1, 1⟩]
theorem pt_known : Pt 33 32 known := ⟨by decide, by decide, by decide, by decide, by decide, by decide, by decide⟩
theorem pt_cross : Pt 3 2 cross := ⟨by decide, by decide, by decide, by decide, by decide, by decide, by decide⟩
def gridS (i hi : Nat) : List Sq := (List.range i).flatMap fun (x : Nat) => (List.range hi).map fun (y : Nat) => (⟨2 * (x : Int), 2 * (y : Int), 2⟩ : Sq)
theorem pt_grid : ∀ hi : Nat, 2 ≤ hi → hi < 4 → Pt 6 (2 * (hi : Int)) (gridS 3 hi) := by
  intro hi h1 h2
  have : hi = 2 ∨ hi = 3 := by omega
  rcases this with rfl | rfl
  · exact ⟨by decide, by decide, by decide, by decide, by decide, by decide, by decide⟩
  · exact ⟨by decide, by decide, by decide, by decide, by decide, by decide, by decide⟩
theorem grid_len (hi : Nat) (h2 : hi < 4) (i : Nat) : (gridS i hi).length ≤ i * 3 := by
  have := flatMap_len (List.range i) (fun (x : Nat) => (List.range hi).map fun (y : Nat) => (⟨2 * (x : Int), 2 * (y : Int), 2⟩ : Sq)) 3 (fun x _ => by rw [List.length_map, List.length_range]; omega)
  rw [List.length_range] at this
  exact this
theorem grid_row {i : Nat} (h2 : hi < 4) : eComp (iR1 (eV 11)) (gNm 9) (tYes') (eTup (adCons (eBin opMul (eC (.int 2)) (eV 8)) (adCons (eBin opMul (eC (.int 2)) (eV 9)) (adCons (eC (.int 2)) (adNil))))) [9] [.io (.list p), .frz (.int 7), .frz (.int s0), .frz (.int w), .frz (.int h), .own (sqs S), osl x6, osl x7, .frz (.int i), .emp, .emp, .frz (.int hi), .own (sqs M)] = some (.new (sqs ((List.range hi).map fun (y : Nat) => (⟨2 * (i : Int), 2 * (y : Int), 2⟩ : Sq))), [.io (.list p), .frz (.int 7), .frz (.int s0), .frz (.int w), .frz (.int h), .own (sqs S), osl x6, osl x7, .frz (.int i), .emp, .emp, .frz (.int hi), .own (sqs M)]) := by
  have h3 : (3 : Nat) ≤ sizeLine := by rw [sizeLine_eq]; omega
  have hm : ∀ n : Int, opMul (.int 2) (.int n) = some (.shr (.int (2 * n))) := fun n => opMul_l (by decide)
  have hc := eComp_nm (it := iR1 (eV 11)) (t := tYes') (f := eTup (adCons (eBin opMul (eC (.int 2)) (eV 8)) (adCons (eBin opMul (eC (.int 2)) (eV 9)) (adCons (eC (.int 2)) (adNil))))) (i := 9) (l := none) (e := [.io (.list p), .frz (.int 7), .frz (.int s0), .frz (.int w), .frz (.int h), .own (sqs S), osl x6, osl x7, .frz (.int i), .emp, .emp, .frz (.int hi), .own (sqs M)]) (e1 := [.io (.list p), .frz (.int 7), .frz (.int s0), .frz (.int w), .frz (.int h), .own (sqs S), osl x6, osl x7, .frz (.int i), .emp, .emp, .frz (.int hi), .own (sqs M)]) (e3 := [.io (.list p), .frz (.int 7), .frz (.int s0), .frz (.int w), .frz (.int h), .own (sqs S), osl x6, osl x7, .frz (.int i), .emp, .emp, .frz (.int hi), .own (sqs M)]) (List.range hi) (fun y => PyData.int (0 + (y : Nat))) sqD (fun _ => true) (fun y => ⟨2 * i, 2 * y, 2⟩) (range_itR (n := hi) (r := .shr (.int hi)) rfl rfl (by omega)) rfl rfl (fun y _ => rfl) (fun y _ _ => ⟨.shr (sqD ⟨2 * i, 2 * y, 2⟩), by
    have e0 : (0 + (y : Int)) = (y : Int) := by omega
    simp only [eTup, adCons, adNil, eBin, eC, eV, List.set_cons_succ, List.set_cons_zero, List.getElem?_cons_succ, List.getElem?_cons_zero, bind, Option.bind, look, Ev.settle, hm, e0, take, pure, List.length_cons, List.length_nil, Nat.zero_add, Nat.reduceAdd, h3, if_true], rfl⟩)
  rw [filter_all] at hc
  exact hc
theorem sp_parting (hp : PoolOk ns p) : ∃ (w h : Int) (S : List Sq) (p' : List D), PoolOk ns p' ∧ Pt w h S ∧ S.length ≤ 20 ∧ fd__law_parting [.list p, .int 7] = some (.shr (.tuple [.int w, .int h, sqs S]), p') := by
  suffices hs : Wp (ev__law_parting [.io (.list p), .frz (.int 7), .emp, .emp, .emp, .emp, .emp, .emp, .emp, .emp, .emp, .emp, .emp]) fun o => ∃ (w h : Int) (S : List Sq) (p' : List D) (e : Ev.Env), PoolOk ns p' ∧ Pt w h S ∧ S.length ≤ 20 ∧ o = .rt (.shr (.tuple [.int w, .int h, sqs S])) e ∧ ioW e = some p' by
    obtain ⟨o, h1, w, h, S, p', e, h2, h3, h4, rfl, h5⟩ := hs
    exact ⟨w, h, S, p', h2, h3, h4, fnW_ok rfl ⟨_, h1, rfl, h5⟩⟩
  have h3 : (3 : Nat) ≤ sizeLine := by rw [sizeLine_eq]; omega
  have h1 : (1 : Nat) ≤ sizeLine := by rw [sizeLine_eq]; omega
  have h9 : (9 : Nat) ≤ sizeLine := by rw [sizeLine_eq]; omega
  unfold ev__law_parting
  obtain ⟨v, p1, hp1, hv, q1⟩ := dr hp 4 (by decide) (by decide) [.frz (.int 7), .emp, .emp, .emp, .emp, .emp, .emp, .emp, .emp, .emp, .emp, .emp]
  refine wp_asg (r := .shr (.int (1 + (v : Int)))) (e1 := [.io (.list p1), .frz (.int 7), .emp, .emp, .emp, .emp, .emp, .emp, .emp, .emp, .emp, .emp, .emp]) (e2 := [.io (.list p1), .frz (.int 7), .frz (.int (1 + (v : Int))), .emp, .emp, .emp, .emp, .emp, .emp, .emp, .emp, .emp, .emp]) ?_ rfl ?_
  · generalize callW fd__law_draw (arCons (eV 0) (arCons (eC (.int 4)) (arNil))) = G at *
    simp only [eBin, eC, q1, bind, Option.bind, Ev.settle, look, opAdd, pure]
  have hs0 : (1 : Int) ≤ 1 + (v : Int) ∧ 1 + (v : Int) ≤ 4 := by omega
  generalize 1 + (v : Int) = s0 at *
  refine wp_asg (r := .shr (.int s0)) (e1 := [.io (.list p1), .frz (.int 7), .frz (.int s0), .emp, .emp, .emp, .emp, .emp, .emp, .emp, .emp, .emp, .emp]) (e2 := [.io (.list p1), .frz (.int 7), .frz (.int s0), .frz (.int s0), .emp, .emp, .emp, .emp, .emp, .emp, .emp, .emp, .emp]) rfl rfl ?_
  refine wp_asg (r := .shr (.int s0)) (e1 := [.io (.list p1), .frz (.int 7), .frz (.int s0), .frz (.int s0), .emp, .emp, .emp, .emp, .emp, .emp, .emp, .emp, .emp]) (e2 := [.io (.list p1), .frz (.int 7), .frz (.int s0), .frz (.int s0), .frz (.int s0), .emp, .emp, .emp, .emp, .emp, .emp, .emp, .emp]) rfl rfl ?_
  refine wp_asg (r := .new (sqs [⟨0, 0, s0⟩])) (e1 := [.io (.list p1), .frz (.int 7), .frz (.int s0), .frz (.int s0), .frz (.int s0), .emp, .emp, .emp, .emp, .emp, .emp, .emp, .emp]) (e2 := [.io (.list p1), .frz (.int 7), .frz (.int s0), .frz (.int s0), .frz (.int s0), .own (sqs [⟨0, 0, s0⟩]), .emp, .emp, .emp, .emp, .emp, .emp, .emp]) ?_ rfl ?_
  · simp only [eList, eTup, adCons, adNil, eC, eV, List.getElem?_cons_succ, List.getElem?_cons_zero, bind, Option.bind, take, pure, List.length_cons, List.length_nil, Nat.zero_add, Nat.reduceAdd, h3, h1, if_true]
    rfl
  have P0 : Pt s0 s0 [⟨0, 0, s0⟩] := ⟨by omega, by omega, fun s hs => by
    rw [List.mem_singleton] at hs; subst hs
    exact ⟨by show (0 : Int) ≤ 0; omega, by show (0 : Int) ≤ 0; omega, by show 0 < s0; omega, by show 0 + s0 ≤ s0; omega, by show 0 + s0 ≤ s0; omega⟩, ⟨_, List.mem_singleton.mpr rfl, rfl⟩, ⟨_, List.mem_singleton.mpr rfl, rfl⟩, ⟨_, List.mem_singleton.mpr rfl, by show 0 + s0 = s0; omega⟩, ⟨_, List.mem_singleton.mpr rfl, by show 0 + s0 = s0; omega⟩⟩
  obtain ⟨v, p2, q2, hp2, hv⟩ := draw_at hp1 (l := 7) (by decide) (by decide)
  have it7 : callW fd__law_draw (arCons (eV 0) (arCons (eV 1) (arNil))) [.io (.list p1), .frz (.int 7), .frz (.int s0), .frz (.int s0), .frz (.int s0), .own (sqs [⟨0, 0, s0⟩]), .emp, .emp, .emp, .emp, .emp, .emp, .emp] = some (.shr (.int (v : Int)), [.io (.list p2), .frz (.int 7), .frz (.int s0), .frz (.int s0), .frz (.int s0), .own (sqs [⟨0, 0, s0⟩]), .emp, .emp, .emp, .emp, .emp, .emp, .emp]) := by
    generalize fd__law_draw = g at *
    simp only [eC, callW, arCons, arNil, eV, List.getElem?_cons_succ, List.getElem?_cons_zero, bind, Option.bind, Ev.settle, pure, takeAll, take, lentOf, q2, fitR, scalD, if_true, setLent, List.set_cons_succ, List.set_cons_zero]
  refine wp_seq ?_
  -- what comes behind the loop
  have fin : ∀ (p : List D) (w h : Int) (S : List Sq) (x6 x7 : Option D), PoolOk ns p → Pt w h S → S.length ≤ 20 → Wp ((sSeq (sIf (asT (eBin opEq (callW fd__law_draw (arCons (eV 0) (arCons (eC (.int 6)) (arNil)))) (eC (.int 0))))
 (sRet (eTup (adCons (eC (.int 33)) (adCons (eC (.int 32)) (adCons (eList (adCons (eTup (adCons (eC (.int 0)) (adCons (eC (.int 0)) (adCons (eC (.int 18)) (adNil))))) (adCons (eTup (adCons (eC (.int 18)) (adCons (eC (.int 0)) (adCons (eC (.int 15)) (adNil))))) (adCons (eTup (adCons (eC (.int 18)) (adCons (eC (.int 15)) (adCons (eC (.int 7)) (adNil))))) (adCons (eTup (adCons (eC (.int 25)) (adCons (eC (.int 15)) (adCons (eC (.int 8)) (adNil))))) (adCons (eTup (adCons (eC (.int 0)) (adCons (eC (.int 18)) (adCons (eC (.int 14)) (adNil))))) (adCons (eTup (adCons (eC (.int 14)) (adCons (eC (.int 18)) (adCons (eC (.int 4)) (adNil))))) (adCons (eTup (adCons (eC (.int 14)) (adCons (eC (.int 22)) (adCons (eC (.int 10)) (adNil))))) (adCons (eTup (adCons (eC (.int 24)) (adCons (eC (.int 22)) (adCons (eC (.int 1)) (adNil))))) (adCons (eTup (adCons (eC (.int 24)) (adCons (eC (.int 23)) (adCons (eC (.int 9)) (adNil))))) (adNil))))))))))) (adNil))))))
 (sNil))
 (sSeq (sIf (asT (eBin opEq (callW fd__law_draw (arCons (eV 0) (arCons (eC (.int 5)) (arNil)))) (eC (.int 0))))
 (sRet (eTup (adCons (eC (.int 3)) (adCons (eC (.int 2)) (adCons (eList (adCons (eTup (adCons (eC (.int 0)) (adCons (eC (.int 0)) (adCons (eC (.int 2)) (adNil))))) (adCons (eTup (adCons (eC (.int 2)) (adCons (eC (.int 0)) (adCons (eC (.int 1)) (adNil))))) (adCons (eTup (adCons (eC (.int 2)) (adCons (eC (.int 1)) (adCons (eC (.int 1)) (adNil))))) (adNil))))) (adNil))))))
 (sNil))
 (sSeq (sIf (asT (eBin opEq (callW fd__law_draw (arCons (eV 0) (arCons (eC (.int 6)) (arNil)))) (eC (.int 0))))
 (sSeq (sAsg 11 (eBin opAdd (eC (.int 2)) (callW fd__law_draw (arCons (eV 0) (arCons (eC (.int 2)) (arNil))))))
 (sSeq (sAsg 12 (eList (adNil)))
 (sSeq (sFor (iR1 (eC (.int 3))) (gNm 8)
 (sAsg 12 (eBin opAdd (eV 12) (eComp (iR1 (eV 11)) (gNm 9) (tYes') (eTup (adCons (eBin opMul (eC (.int 2)) (eV 8)) (adCons (eBin opMul (eC (.int 2)) (eV 9)) (adCons (eC (.int 2)) (adNil))))) [9]))))
 (sRet (eTup (adCons (eC (.int 6)) (adCons (eBin opMul (eC (.int 2)) (eV 11)) (adCons (eV 12) (adNil)))))))))
 (sNil))
 (sRet (eTup (adCons (eV 3) (adCons (eV 4) (adCons (eUn opSortedK (eV 5)) (adNil))))))))) [.io (.list p), .frz (.int 7), .frz (.int s0), .frz (.int w), .frz (.int h), .own (sqs S), osl x6, osl x7, .emp, .emp, .emp, .emp, .emp]) fun o => ∃ (w h : Int) (S : List Sq) (p' : List D) (e : Ev.Env), PoolOk ns p' ∧ Pt w h S ∧ S.length ≤ 20 ∧ o = .rt (.shr (.tuple [.int w, .int h, sqs S])) e ∧ ioW e = some p' := by
    intro p w h S x6 x7 hp P hl
    have tst : ∀ (p : List D) (L : Int), PoolOk ns p → 0 < L → L < 1000000 → ∃ (b : Bool) (p' : List D), PoolOk ns p' ∧ asT (eBin opEq (callW fd__law_draw (arCons (eV 0) (arCons (eC (.int L)) (arNil)))) (eC (.int 0))) [.io (.list p), .frz (.int 7), .frz (.int s0), .frz (.int w), .frz (.int h), .own (sqs S), osl x6, osl x7, .emp, .emp, .emp, .emp, .emp] = some (b, (fun p => [.io (.list p), .frz (.int 7), .frz (.int s0), .frz (.int w), .frz (.int h), .own (sqs S), osl x6, osl x7, .emp, .emp, .emp, .emp, .emp]) p') := fun p L hp h1 h2 => by
      obtain ⟨v, p', hp', hv, q⟩ := dr hp L h1 h2 [.frz (.int 7), .frz (.int s0), .frz (.int w), .frz (.int h), .own (sqs S), osl x6, osl x7, .emp, .emp, .emp, .emp, .emp]
      refine ⟨decide ((v : Int) = 0), p', hp', ?_⟩
      generalize callW fd__law_draw (arCons (eV 0) (arCons (eC (.int L)) (arNil))) = G at *
      simp only [asT, eBin, q, eC, bind, Option.bind, Ev.settle, look, opEq_int, pure]
    obtain ⟨b1, p1, hp1, t1⟩ := tst p 6 hp (by decide) (by decide)
    refine wp_out t1 (fun _ => ?_) fun _ => ?_
    · refine wp_ret (r := .shr (.tuple [.int 33, .int 32, sqs known])) (e1 := (fun p => [.io (.list p), .frz (.int 7), .frz (.int s0), .frz (.int w), .frz (.int h), .own (sqs S), osl x6, osl x7, .emp, .emp, .emp, .emp, .emp]) p1) ?_ ⟨33, 32, known, p1, _, hp1, pt_known, by decide, rfl, rfl⟩
      simp only [eList, eTup, adCons, adNil, eC, bind, Option.bind, take, pure, List.length_cons, List.length_nil, Nat.zero_add, Nat.reduceAdd, h3, h9, if_true]
      rfl
    obtain ⟨b2, p2, hp2, t2⟩ := tst p1 5 hp1 (by decide) (by decide)
    refine wp_out t2 (fun _ => ?_) fun _ => ?_
    · refine wp_ret (r := .shr (.tuple [.int 3, .int 2, sqs cross])) (e1 := (fun p => [.io (.list p), .frz (.int 7), .frz (.int s0), .frz (.int w), .frz (.int h), .own (sqs S), osl x6, osl x7, .emp, .emp, .emp, .emp, .emp]) p2) ?_ ⟨3, 2, cross, p2, _, hp2, pt_cross, by decide, rfl, rfl⟩
      simp only [eList, eTup, adCons, adNil, eC, bind, Option.bind, take, pure, List.length_cons, List.length_nil, Nat.zero_add, Nat.reduceAdd, h3, if_true]
      rfl
    obtain ⟨b3, p3, hp3, t3⟩ := tst p2 6 hp2 (by decide) (by decide)
    refine wp_out t3 (fun _ => ?_) fun _ => ?_
    · obtain ⟨v, p4, hp4, hv, q4⟩ := dr hp3 2 (by decide) (by decide) [.frz (.int 7), .frz (.int s0), .frz (.int w), .frz (.int h), .own (sqs S), osl x6, osl x7, .emp, .emp, .emp, .emp, .emp]
      refine wp_asg (r := .shr (.int ((2 + v : Nat) : Int))) (e1 := (fun p => [.io (.list p), .frz (.int 7), .frz (.int s0), .frz (.int w), .frz (.int h), .own (sqs S), osl x6, osl x7, .emp, .emp, .emp, .emp, .emp]) p4) (e2 := (fun p => [.io (.list p), .frz (.int 7), .frz (.int s0), .frz (.int w), .frz (.int h), .own (sqs S), osl x6, osl x7, .emp, .emp, .emp, .frz (.int ((2 + v : Nat) : Int)), .emp]) p4) ?_ rfl ?_
      · have e2 : ((2 : Int) + (v : Int)) = ((2 + v : Nat) : Int) := by omega
        have c2 : eC (.int 2) ((fun p => [.io (.list p), .frz (.int 7), .frz (.int s0), .frz (.int w), .frz (.int h), .own (sqs S), osl x6, osl x7, .emp, .emp, .emp, .emp, .emp]) p3) = some (.shr (.int 2), (fun p => [.io (.list p), .frz (.int 7), .frz (.int s0), .frz (.int w), .frz (.int h), .own (sqs S), osl x6, osl x7, .emp, .emp, .emp, .emp, .emp]) p3) := rfl
        dsimp only at c2
        generalize callW fd__law_draw (arCons (eV 0) (arCons (eC (.int 2)) (arNil))) = G at *
        simp only [eBin, c2, q4, bind, Option.bind, Ev.settle, look, opAdd, e2, pure]
      have hhi : 2 ≤ 2 + v ∧ 2 + v < 4 := by omega
      generalize 2 + v = hi at *
      refine wp_asg (r := .new (sqs [])) (e1 := (fun p => [.io (.list p), .frz (.int 7), .frz (.int s0), .frz (.int w), .frz (.int h), .own (sqs S), osl x6, osl x7, .emp, .emp, .emp, .frz (.int hi), .emp]) p4) (e2 := (fun p => [.io (.list p), .frz (.int 7), .frz (.int s0), .frz (.int w), .frz (.int h), .own (sqs S), osl x6, osl x7, .emp, .emp, .emp, .frz (.int hi), .own (sqs [])]) p4) rfl rfl ?_
      refine wp_seq ?_
      refine wp_for (l := none) (e1 := (fun p => [.io (.list p), .frz (.int 7), .frz (.int s0), .frz (.int w), .frz (.int h), .own (sqs S), osl x6, osl x7, .emp, .emp, .emp, .frz (.int hi), .own (sqs [])]) p4) (fun i e => ∃ x8 : Option D, e = (fun p M => [.io (.list p), .frz (.int 7), .frz (.int s0), .frz (.int w), .frz (.int h), .own (sqs S), osl x6, osl x7, osl x8, .emp, .emp, .frz (.int hi), .own (sqs M)]) p4 (gridS i hi)) (range_itR (n := 3) (r := .shr (.int (3 : Nat))) rfl rfl (by omega)) ⟨none, rfl⟩ (fun i d ei hd hi' => ?_) fun e' he => ?_
      · obtain ⟨x8, rfl⟩ := hi'
        rw [List.getElem?_map] at hd
        obtain ⟨j, hj, rfl⟩ := Option.map_eq_some_iff.mp hd
        have hlt : i < 3 := by
          have := (List.getElem?_eq_some_iff.mp hj).1
          rwa [List.length_range] at this
        rw [List.getElem?_range hlt] at hj
        cases hj
        have e0 : (0 + (i : Int)) = (i : Int) := by omega
        have g8 : ioAt ((fun p M => [.io (.list p), .frz (.int 7), .frz (.int s0), .frz (.int w), .frz (.int h), .own (sqs S), osl x6, osl x7, osl x8, .emp, .emp, .frz (.int hi), .own (sqs M)]) p4 (gridS i hi)) 8 = false := ioAt_osl (x := x8) rfl
        dsimp only at g8
        refine ⟨(fun p M => [.io (.list p), .frz (.int 7), .frz (.int s0), .frz (.int w), .frz (.int h), .own (sqs S), osl x6, osl x7, .frz (.int i), .emp, .emp, .frz (.int hi), .own (sqs M)]) p4 (gridS i hi), by simp only [gNm, g8, e0, Bool.false_eq_true, if_false, List.set_cons_succ, List.set_cons_zero], ?_⟩
        have hr := grid_row (p := p4) (s0 := s0) (w := w) (h := h) (S := S) (M := gridS i hi) (x6 := x6) (x7 := x7) (i := i) hhi.2
        refine ⟨.nx ((fun p M => [.io (.list p), .frz (.int 7), .frz (.int s0), .frz (.int w), .frz (.int h), .own (sqs S), osl x6, osl x7, .frz (.int i), .emp, .emp, .frz (.int hi), .own (sqs M)]) p4 (gridS (i + 1) hi)), ?_, some (.int i), rfl⟩
        have hgl := grid_len hi hhi.2 i
        have hgs : gridS (i + 1) hi = gridS i hi ++ (List.range hi).map fun (y : Nat) => (⟨2 * (i : Int), 2 * (y : Int), 2⟩ : Sq) := by
          unfold gridS
          rw [List.range_succ, List.flatMap_append]
          simp
        have ha : opAdd (sqs (gridS i hi)) (sqs ((List.range hi).map fun (y : Nat) => (⟨2 * (i : Int), 2 * (y : Int), 2⟩ : Sq))) = some (.new (sqs (gridS (i + 1) hi))) := by
          have hsz : (gridS i hi).length + hi ≤ sizeLine := by rw [sizeLine_eq]; omega
          rw [hgs]
          simp only [sqs, opAdd, List.length_map, List.length_range, hsz, if_true, List.map_append]
        have v12 : eV 12 ((fun p M => [.io (.list p), .frz (.int 7), .frz (.int s0), .frz (.int w), .frz (.int h), .own (sqs S), osl x6, osl x7, .frz (.int i), .emp, .emp, .frz (.int hi), .own (sqs M)]) p4 (gridS i hi)) = some (.var 12, (fun p M => [.io (.list p), .frz (.int 7), .frz (.int s0), .frz (.int w), .frz (.int h), .own (sqs S), osl x6, osl x7, .frz (.int i), .emp, .emp, .frz (.int hi), .own (sqs M)]) p4 (gridS i hi)) := rfl
        dsimp only at v12 hr ⊢
        generalize eComp (iR1 (eV 11)) (gNm 9) (tYes') (eTup (adCons (eBin opMul (eC (.int 2)) (eV 8)) (adCons (eBin opMul (eC (.int 2)) (eV 9)) (adCons (eC (.int 2)) (adNil))))) [9] = G at *
        simp only [sAsg, eBin, v12, hr, bind, Option.bind, Ev.settle, look, List.getElem?_cons_succ, List.getElem?_cons_zero, Slot.get, ha, pure, store, ioAt, Bool.false_eq_true, if_false, List.set_cons_succ, List.set_cons_zero]
      · obtain ⟨x8, rfl⟩ := he
        rw [List.length_map, List.length_range]
        refine ⟨_, rfl, ?_⟩
        refine wp_ret (r := .shr (.tuple [.int 6, .int (2 * hi), sqs (gridS 3 hi)])) (e1 := (fun p M => [.io (.list p), .frz (.int 7), .frz (.int s0), .frz (.int w), .frz (.int h), .own (sqs S), osl x6, osl x7, osl x8, .emp, .emp, .frz (.int hi), .frz (sqs M)]) p4 (gridS 3 hi)) ?_ ⟨6, 2 * hi, gridS 3 hi, p4, _, hp4, pt_grid hi hhi.1 hhi.2, by have := grid_len hi hhi.2 3; omega, rfl, rfl⟩
        have hm : opMul (.int 2) (.int (hi : Int)) = some (.shr (.int (2 * hi))) := opMul_l (by decide)
        simp only [eTup, adCons, adNil, eBin, eC, eV, List.getElem?_cons_succ, List.getElem?_cons_zero, bind, Option.bind, look, Ev.settle, hm, take, List.set_cons_succ, List.set_cons_zero, pure, List.length_cons, List.length_nil, Nat.zero_add, Nat.reduceAdd, h3, if_true]
    · have hso := opSorted_sq S
      refine wp_ret (r := .shr (.tuple [.int w, .int h, sqs (Ev.srt S)])) (e1 := (fun p => [.io (.list p), .frz (.int 7), .frz (.int s0), .frz (.int w), .frz (.int h), .own (sqs S), osl x6, osl x7, .emp, .emp, .emp, .emp, .emp]) p3) ?_ ⟨w, h, Ev.srt S, p3, _, hp3, pt_srt P, by rw [(srt_perm S).length_eq]; exact hl, rfl, rfl⟩
      simp only [eTup, adCons, adNil, eUn, eV, List.getElem?_cons_succ, List.getElem?_cons_zero, bind, Option.bind, look, Slot.get, hso, take, pure, List.length_cons, List.length_nil, Nat.zero_add, Nat.reduceAdd, h3, if_true]
  refine wp_for (l := none) (e1 := (fun p w h S x6 x7 => [.io (.list p), .frz (.int 7), .frz (.int s0), .frz (.int w), .frz (.int h), .own (sqs S), osl x6, osl x7, .emp, .emp, .emp, .emp, .emp]) p2 s0 s0 [⟨0, 0, s0⟩] none none) (fun i e => ∃ (p : List D) (w h : Int) (S : List Sq) (x6 x7 : Option D), PoolOk ns p ∧ Pt w h S ∧ S.length ≤ 1 + i ∧ i ≤ v ∧ e = [.io (.list p), .frz (.int 7), .frz (.int s0), .frz (.int w), .frz (.int h), .own (sqs S), osl x6, osl x7, .emp, .emp, .emp, .emp, .emp]) (range_itR (n := v) it7 rfl (by omega)) ⟨p2, s0, s0, [⟨0, 0, s0⟩], none, none, hp2, P0, by simp, by omega, rfl⟩ (fun i d ei hd hi' => ?_) fun e' he => ?_
  · obtain ⟨p, w, h, S, x6, x7, hp, P, hl, hiv, rfl⟩ := hi'
    rw [List.getElem?_map] at hd
    obtain ⟨j, hj, rfl⟩ := Option.map_eq_some_iff.mp hd
    have hlt : i < v := by
      have := (List.getElem?_eq_some_iff.mp hj).1
      rwa [List.length_range] at this
    have g6 : ioAt [.io (.list p), .frz (.int 7), .frz (.int s0), .frz (.int w), .frz (.int h), .own (sqs S), osl x6, osl x7, .emp, .emp, .emp, .emp, .emp] 6 = false := ioAt_osl (x := x6) rfl
    refine ⟨[.io (.list p), .frz (.int 7), .frz (.int s0), .frz (.int w), .frz (.int h), .own (sqs S), .frz (.int (0 + (j : Int))), osl x7, .emp, .emp, .emp, .emp, .emp], by simp only [gNm, g6, Bool.false_eq_true, if_false, List.set_cons_succ, List.set_cons_zero], ?_⟩
    obtain ⟨p', hp', q⟩ := nxt hp [.frz (.int 7), .frz (.int s0), .frz (.int w), .frz (.int h), .own (sqs S), .frz (.int (0 + (j : Int))), osl x7, .emp, .emp, .emp, .emp, .emp]
    refine wp_nx q ?_
    obtain ⟨u, p'', hp'', hu, q''⟩ := dr hp' 5 (by decide) (by decide) [.frz (.int 7), .frz (.int s0), .frz (.int w), .frz (.int h), .own (sqs S), .frz (.int (0 + (j : Int))), osl x7, .emp, .emp, .emp, .emp, .emp]
    have g7 : ioAt ((fun p => [.io (.list p), .frz (.int 7), .frz (.int s0), .frz (.int w), .frz (.int h), .own (sqs S), .frz (.int (0 + (j : Int))), osl x7, .emp, .emp, .emp, .emp, .emp]) p'') 7 = false := ioAt_osl (x := x7) rfl
    dsimp only at g7
    refine wp_asg (e2 := (fun p => [.io (.list p), .frz (.int 7), .frz (.int s0), .frz (.int w), .frz (.int h), .own (sqs S), .frz (.int (0 + (j : Int))), .frz (.int u), .emp, .emp, .emp, .emp, .emp]) p'') q'' (by simp only [store, take, g7, bind, Option.bind, Bool.false_eq_true, if_false, pure, List.set_cons_succ, List.set_cons_zero]) ?_
    refine wp_out (b := decide ((u : Int) = 4) && (decide (w = h) && (decide (1 < w) && decide (1 < (S.length : Int))))) (e1 := (fun p => [.io (.list p), .frz (.int 7), .frz (.int s0), .frz (.int w), .frz (.int h), .own (sqs S), .frz (.int (0 + (j : Int))), .frz (.int u), .emp, .emp, .emp, .emp, .emp]) p'') ?_ (fun _ => ?_) fun _ => ?_
    · refine tAnd_eq (asT_eq ?_) (tAnd_eq (asT_eq ?_) (tAnd_eq (asT_eq ?_) (asT_eq ?_)))
      · exact eBin_eq (ra := .shr (.int u)) (rb := .shr (.int 4)) rfl rfl rfl rfl opEq_int
      · exact eBin_eq (ra := .shr (.int w)) (rb := .shr (.int h)) rfl rfl rfl rfl opEq_int
      · exact eBin_eq (ra := .shr (.int w)) (rb := .shr (.int 1)) rfl rfl rfl rfl opGt_int
      · exact eBin_eq (eUn_eq (op := opLen) (ra := .var 5) (r := .shr (.int S.length)) rfl rfl (by simp [opLen])) (rb := .shr (.int 1)) rfl rfl rfl opGt_int
    · exact ⟨_, rfl, _, rfl, fin p'' w h S (some (.int (0 + (j : Int)))) (some (.int u)) hp'' P (by omega)⟩
    · exact gr_ok (x6 := some (.int (0 + (j : Int)))) P (by omega) fun w' h' S' P' hl' => ⟨p'', w', h', S', some (.int (0 + (j : Int))), some (.int u), hp'', P', by omega, by omega, rfl⟩
  · obtain ⟨p, w, h, S, x6, x7, hp, P, hl, hiv, rfl⟩ := he
    rw [List.length_map, List.length_range] at hl hiv
    exact ⟨_, rfl, fin p w h S x6 x7 hp P (by omega)⟩
end
end LawX
set_option Elab.async false
set_option linter.all false
set_option maxRecDepth 100000
set_option maxHeartbeats 2000000
namespace LawX
open PySem PySem.Spec PyProof.Rows L2 Ev PySem.W
section
variable {ns : List Int} {p p' : List D} {w h : Int} {S : List Sq} {v : Nat}
abbrev flX (w : Int) (s : Sq) : Sq := ⟨w - s.a - s.c, s.b, s.c⟩
abbrev flY (h : Int) (s : Sq) : Sq := ⟨s.a, h - s.b - s.c, s.c⟩
abbrev flXY (w h : Int) (s : Sq) : Sq := ⟨w - s.a - s.c, h - s.b - s.c, s.c⟩
theorem pt_flX (P : Pt w h S) : Pt w h (S.map (flX w)) := by
  obtain ⟨h1, h2, ins, ⟨a, a1, a2⟩, ⟨b, b1, b2⟩, ⟨c, c1, c2⟩, ⟨d, d1, d2⟩⟩ := P
  refine ⟨h1, h2, fun s hs => ?_, ⟨_, List.mem_map_of_mem c1, by show w - c.a - c.c = 0; omega⟩, ⟨_, List.mem_map_of_mem b1, b2⟩, ⟨_, List.mem_map_of_mem a1, by show w - a.a - a.c + a.c = w; omega⟩, ⟨_, List.mem_map_of_mem d1, d2⟩⟩
  obtain ⟨u, hu, rfl⟩ := List.mem_map.mp hs
  have := ins u hu
  exact ⟨by show 0 ≤ w - u.a - u.c; omega, this.2.1, this.2.2.1, by show w - u.a - u.c + u.c ≤ w; omega, this.2.2.2.2⟩
theorem pt_flY (P : Pt w h S) : Pt w h (S.map (flY h)) := by
  obtain ⟨h1, h2, ins, ⟨a, a1, a2⟩, ⟨b, b1, b2⟩, ⟨c, c1, c2⟩, ⟨d, d1, d2⟩⟩ := P
  refine ⟨h1, h2, fun s hs => ?_, ⟨_, List.mem_map_of_mem a1, a2⟩, ⟨_, List.mem_map_of_mem d1, by show h - d.b - d.c = 0; omega⟩, ⟨_, List.mem_map_of_mem c1, c2⟩, ⟨_, List.mem_map_of_mem b1, by show h - b.b - b.c + b.c = h; omega⟩⟩
  obtain ⟨u, hu, rfl⟩ := List.mem_map.mp hs
  have := ins u hu
  exact ⟨this.1, by show 0 ≤ h - u.b - u.c; omega, this.2.2.1, this.2.2.2.1, by show h - u.b - u.c + u.c ≤ h; omega⟩
theorem pt_flXY (P : Pt w h S) : Pt w h (S.map (flXY w h)) := by
  have := pt_flY (pt_flX P)
  rw [List.map_map] at this
  exact this
theorem tr_comp {f : E} (g : Sq → Sq) (hf : ∀ s : Sq, f [.io (.list p), .frz (.int w), .frz (.int h), .frz (sqs S), .frz (.int v), .frz (.int s.a), .frz (.int s.b), .frz (.int s.c)] = some (.shr (sqD (g s)), [.io (.list p), .frz (.int w), .frz (.int h), .frz (sqs S), .frz (.int v), .frz (.int s.a), .frz (.int s.b), .frz (.int s.c)])) : eUn opSortedK (eWith 3 (eComp (iN 3) (gTp 3 (gsCons (gNm 5) (gsCons (gNm 6) (gsCons (gNm 7) (gsNil))))) (tYes') f [5, 6, 7])) [.io (.list p), .frz (.int w), .frz (.int h), .frz (sqs S), .frz (.int v), .emp, .emp, .emp] = some (.new (sqs (Ev.srt (S.map g))), [.io (.list p), .frz (.int w), .frz (.int h), .frz (sqs S), .frz (.int v), .emp, .emp, .emp]) := by
  have hc := eComp_ty (it := iN 3) (tg := gTp 3 (gsCons (gNm 5) (gsCons (gNm 6) (gsCons (gNm 7) (gsNil))))) (t := tYes') (f := f) (vs := [5, 6, 7]) (l := none) (e := [.io (.list p), .frz (.int w), .frz (.int h), .frz (sqs S), .frz (.int v), .emp, .emp, .emp]) (e1 := [.io (.list p), .frz (.int w), .frz (.int h), .frz (sqs S), .frz (.int v), .emp, .emp, .emp]) (e3 := [.io (.list p), .frz (.int w), .frz (.int h), .frz (sqs S), .frz (.int v), .emp, .emp, .emp]) S sqD sqD (fun _ => true) g rfl rfl rfl (fun s hs => ⟨[.io (.list p), .frz (.int w), .frz (.int h), .frz (sqs S), .frz (.int v), .frz (.int s.a), .frz (.int s.b), .frz (.int s.c)], rfl, rfl, rfl, rfl, fun _ => ⟨.shr (sqD (g s)), hf s, rfl⟩⟩)
  rw [filter_all] at hc
  have hw : eWith 3 (eComp (iN 3) (gTp 3 (gsCons (gNm 5) (gsCons (gNm 6) (gsCons (gNm 7) (gsNil))))) (tYes') f [5, 6, 7]) [.io (.list p), .frz (.int w), .frz (.int h), .frz (sqs S), .frz (.int v), .emp, .emp, .emp] = some (.new (sqs (S.map g)), [.io (.list p), .frz (.int w), .frz (.int h), .frz (sqs S), .frz (.int v), .emp, .emp, .emp]) := hc
  exact eUn_eq hw rfl (opSorted_sq _)
theorem sp_turned (hp : PoolOk ns p) (P : Pt w h S) : ∃ (S' : List Sq) (p' : List D), PoolOk ns p' ∧ Pt w h S' ∧ S'.length = S.length ∧ fd__law_turned_parting [.list p, .int w, .int h, sqs S] = some (.new (sqs S'), p') := by
  suffices hs : Wp (ev__law_turned_parting [.io (.list p), .frz (.int w), .frz (.int h), .frz (sqs S), .emp, .emp, .emp, .emp]) fun o => ∃ (S' : List Sq) (p' : List D) (e : Ev.Env), PoolOk ns p' ∧ Pt w h S' ∧ S'.length = S.length ∧ o = .rt (.new (sqs S')) e ∧ ioW e = some p' by
    obtain ⟨o, h1, S', p', e, h2, h3, h4, rfl, h5⟩ := hs
    exact ⟨S', p', h2, h3, h4, fnW_ok rfl ⟨_, h1, rfl, h5⟩⟩
  have h3 : (3 : Nat) ≤ sizeLine := by rw [sizeLine_eq]; omega
  unfold ev__law_turned_parting
  obtain ⟨v, p1, hp1, hv, q1⟩ := dr hp 4 (by decide) (by decide) [.frz (.int w), .frz (.int h), .frz (sqs S), .emp, .emp, .emp, .emp]
  refine wp_asg (e2 := (fun p => [.io (.list p), .frz (.int w), .frz (.int h), .frz (sqs S), .frz (.int v), .emp, .emp, .emp]) p1) q1 rfl ?_
  have len : ∀ g : Sq → Sq, (Ev.srt (S.map g)).length = S.length := fun g => by rw [(srt_perm _).length_eq, List.length_map]
  refine wp_out (b := decide ((v : Int) = 0)) (e1 := (fun p => [.io (.list p), .frz (.int w), .frz (.int h), .frz (sqs S), .frz (.int v), .emp, .emp, .emp]) p1) (asT_eq (eBin_eq (ra := .shr (.int v)) (rb := .shr (.int 0)) rfl rfl rfl rfl opEq_int)) (fun _ => ?_) fun _ => ?_
  · refine wp_ret (e1 := (fun p => [.io (.list p), .frz (.int w), .frz (.int h), .frz (sqs S), .frz (.int v), .emp, .emp, .emp]) p1) (tr_comp (flX w) fun s => ?_) ⟨_, p1, _, hp1, pt_srt (pt_flX P), len _, rfl, rfl⟩
    simp only [eTup, adCons, adNil, eBin, eV, List.getElem?_cons_succ, List.getElem?_cons_zero, bind, Option.bind, look, Ev.settle, opSub, take, pure, List.length_cons, List.length_nil, Nat.zero_add, Nat.reduceAdd, h3, if_true]
  refine wp_out (b := decide ((v : Int) = 1)) (e1 := (fun p => [.io (.list p), .frz (.int w), .frz (.int h), .frz (sqs S), .frz (.int v), .emp, .emp, .emp]) p1) (asT_eq (eBin_eq (ra := .shr (.int v)) (rb := .shr (.int 1)) rfl rfl rfl rfl opEq_int)) (fun _ => ?_) fun _ => ?_
  · refine wp_ret (e1 := (fun p => [.io (.list p), .frz (.int w), .frz (.int h), .frz (sqs S), .frz (.int v), .emp, .emp, .emp]) p1) (tr_comp (flY h) fun s => ?_) ⟨_, p1, _, hp1, pt_srt (pt_flY P), len _, rfl, rfl⟩
    simp only [eTup, adCons, adNil, eBin, eV, List.getElem?_cons_succ, List.getElem?_cons_zero, bind, Option.bind, look, Ev.settle, opSub, take, pure, List.length_cons, List.length_nil, Nat.zero_add, Nat.reduceAdd, h3, if_true]
  refine wp_out (b := decide ((v : Int) = 2)) (e1 := (fun p => [.io (.list p), .frz (.int w), .frz (.int h), .frz (sqs S), .frz (.int v), .emp, .emp, .emp]) p1) (asT_eq (eBin_eq (ra := .shr (.int v)) (rb := .shr (.int 2)) rfl rfl rfl rfl opEq_int)) (fun _ => ?_) fun _ => ?_
  · refine wp_ret (e1 := (fun p => [.io (.list p), .frz (.int w), .frz (.int h), .frz (sqs S), .frz (.int v), .emp, .emp, .emp]) p1) (tr_comp (flXY w h) fun s => ?_) ⟨_, p1, _, hp1, pt_srt (pt_flXY P), len _, rfl, rfl⟩
    simp only [eTup, adCons, adNil, eBin, eV, List.getElem?_cons_succ, List.getElem?_cons_zero, bind, Option.bind, look, Ev.settle, opSub, take, pure, List.length_cons, List.length_nil, Nat.zero_add, Nat.reduceAdd, h3, if_true]
  · exact wp_ret (e1 := (fun p => [.io (.list p), .frz (.int w), .frz (.int h), .frz (sqs S), .frz (.int v), .emp, .emp, .emp]) p1) (eUn_eq (ra := .shr (sqs S)) rfl rfl (opSorted_sq S)) ⟨_, p1, _, hp1, pt_srt P, by rw [(srt_perm _).length_eq], rfl, rfl⟩
end
end LawX
set_option Elab.async false
set_option linter.all false
set_option maxRecDepth 100000
set_option maxHeartbeats 2000000
namespace LawX
open PySem PySem.Spec PyProof.Rows L2 Ev PySem.W
section
variable {ns : List Int} {p p' : List D} {w h : Int} {S : List Sq} {s4 : Slot}
/-! ### both find the same -/
theorem abs_lt {z : Int} (h0 : 0 ≤ z) (h1 : z ≤ 60) : z.natAbs < 1000 := by omega
theorem Pt.smallP (P : Pt w h S) (hl : S.length ≤ 20) : Small (acrP w S) (upP h S) S := by
  refine ⟨fun n hn => ?_, fun n hn => ?_, fun s hs => ?_, by omega⟩
  · rcases List.mem_append.mp (ssI_mem.mp hn) with z | z
    · obtain ⟨s, hs, rfl⟩ := List.mem_map.mp z
      have := P.ins s hs; have := P.wid; exact abs_lt (by omega) (by omega)
    · rw [List.mem_singleton] at z; subst z; have := P.wid; exact abs_lt (by omega) (by omega)
  · rcases List.mem_append.mp (ssI_mem.mp hn) with z | z
    · obtain ⟨s, hs, rfl⟩ := List.mem_map.mp z
      have := P.ins s hs; have := P.hei; exact abs_lt (by omega) (by omega)
    · rw [List.mem_singleton] at z; subst z; have := P.hei; exact abs_lt (by omega) (by omega)
  · have := P.ins s hs; have := P.wid; exact abs_lt (by omega) (by omega)
theorem acrL_mem {n : Int} : n ∈ acrL w S ↔ n = 0 ∨ n = w ∨ ∃ s ∈ S, s.a = n := by
  rw [acrL, (srt_perm _).mem_iff]
  simp
theorem upL_mem {n : Int} : n ∈ upL h S ↔ n = 0 ∨ n = h ∨ ∃ s ∈ S, s.b = n := by
  rw [upL, (srt_perm _).mem_iff]
  simp
theorem Pt.smallL (P : Pt w h S) (hl : S.length ≤ 20) : Small (acrL w S) (upL h S) S := by
  refine ⟨fun n hn => ?_, fun n hn => ?_, fun s hs => ?_, by omega⟩
  · rcases acrL_mem.mp hn with rfl | rfl | ⟨s, hs, rfl⟩
    · decide
    · have := P.wid; exact abs_lt (by omega) (by omega)
    · have := P.ins s hs; have := P.wid; exact abs_lt (by omega) (by omega)
  · rcases upL_mem.mp hn with rfl | rfl | ⟨s, hs, rfl⟩
    · decide
    · have := P.hei; exact abs_lt (by omega) (by omega)
    · have := P.ins s hs; have := P.hei; exact abs_lt (by omega) (by omega)
  · have := P.ins s hs; have := P.wid; exact abs_lt (by omega) (by omega)
theorem srt_ints (ns : List Int) : (Ev.srt ns).Pairwise (· ≤ ·) := by
  refine (srt_le ns).imp fun {a b} h => ?_
  have h' : decide (b < a) = false := h
  have := of_decide_eq_false h'
  omega
theorem Pt.both (P : Pt w h S) : fndL (acrL w S) (upL h S) S = fndP (acrP w S) (upP h S) S := by
  refine fnd_same S (srt_ints _) (srt_ints _) (lt_unique (ssI_lt _) (ssI_lt _) fun z => ?_) (lt_unique (ssI_lt _) (ssI_lt _) fun z => ?_)
  · rw [ssI_mem, ssI_mem, acrL_mem]
    obtain ⟨s, h1, h2⟩ := P.l
    simp only [List.mem_append, List.mem_map, List.mem_singleton]
    constructor
    · rintro (q | q | q)
      · exact .inl ⟨s, h1, h2.trans q.symm⟩
      · exact .inr q
      · exact .inl q
    · rintro (q | q)
      · exact .inr (.inr q)
      · exact .inr (.inl q)
  · rw [ssI_mem, ssI_mem, upL_mem]
    obtain ⟨s, h1, h2⟩ := P.t
    simp only [List.mem_append, List.mem_map, List.mem_singleton]
    constructor
    · rintro (q | q | q)
      · exact .inl ⟨s, h1, h2.trans q.symm⟩
      · exact .inr q
      · exact .inl q
    · rintro (q | q)
      · exact .inr (.inr q)
      · exact .inr (.inl q)
theorem ans_same {A U : List Int} : ∃ d, ansR (fndP A U S) = .shr d ∧ fd__law_same [d, d] = some (.shr (.bool true), []) := by
  cases hf : fndP A U S with
  | none => exact ⟨.none, rfl, same_none 8⟩
  | some r' =>
    obtain ⟨x, y, r, l, rfl⟩ := fndP_shr hf
    exact ⟨resD x y r l, rfl, same_res 7 x y r l⟩
/-! ### the known one -/
theorem known_none : (fndP (acrP 33 known) (upP 32 known) known).isNone = true := by decide +kernel
theorem known_part : fd_is_parting [.int 33, .int 32, sqs known] = some (.shr (.bool true), []) := by kernel_rfl
theorem known_perfect : fd_is_perfect [sqs known] = some (.shr (.bool true), []) := (sp_perfect known (by decide)).trans (by rw [show decide (sides known).Nodup = true by decide])
theorem known_inner : fd_inner_rectangle [.int 33, .int 32, sqs known] = some (.shr .none, []) := by
  rw [sp_inner (pt_known.smallP (by decide)) (by decide)]
  have := known_none
  cases hf : fndP (acrP 33 known) (upP 32 known) known with
  | none => rfl
  | some r => rw [hf] at this; cases this
end
end LawX
set_option Elab.async false
set_option linter.all false
set_option maxRecDepth 100000
set_option maxHeartbeats 2000000
namespace LawX
open PySem PySem.Spec PyProof.Rows L2 Ev PySem.W
section
variable {ns : List Int} {p p' : List D} {w h : Int} {S : List Sq} {s4 : Slot}
theorem ph_sides : sAsg 5 (eWith 4 (eComp (iN 4) (gTp 3 (gsCons (gNm 6) (gsCons (gNm 7) (gsCons (gNm 8) (gsNil))))) (tYes') (eV 8) [6, 7, 8])) [.frz (scrD ns), .own (.list p), .frz (.int w), .frz (.int h), .own (sqs S), .emp, .emp, .emp, .emp, .emp, .emp, .emp] = some (.nx [.frz (scrD ns), .own (.list p), .frz (.int w), .frz (.int h), .own (sqs S), .own (nms (sides S)), .emp, .emp, .emp, .emp, .emp, .emp]) := by
  have hc := eComp_ty (it := iN 4) (tg := gTp 3 (gsCons (gNm 6) (gsCons (gNm 7) (gsCons (gNm 8) (gsNil))))) (t := tYes') (f := eV 8) (vs := [6, 7, 8]) (l := some 4) (e := [.frz (scrD ns), .own (.list p), .frz (.int w), .frz (.int h), .own (sqs S), .emp, .emp, .emp, .emp, .emp, .emp, .emp]) (e1 := [.frz (scrD ns), .own (.list p), .frz (.int w), .frz (.int h), .lk (sqs S), .emp, .emp, .emp, .emp, .emp, .emp, .emp]) (e3 := [.frz (scrD ns), .own (.list p), .frz (.int w), .frz (.int h), .own (sqs S), .emp, .emp, .emp, .emp, .emp, .emp, .emp]) S sqD PyData.int (fun _ => true) (fun s => s.c) rfl rfl rfl (fun s hs => ⟨[.frz (scrD ns), .own (.list p), .frz (.int w), .frz (.int h), .lk (sqs S), .emp, .frz (.int s.a), .frz (.int s.b), .frz (.int s.c), .emp, .emp, .emp], rfl, rfl, rfl, rfl, fun _ => ⟨.shr (.int s.c), rfl, rfl⟩⟩)
  rw [filter_all] at hc
  have hw : eWith 4 (eComp (iN 4) (gTp 3 (gsCons (gNm 6) (gsCons (gNm 7) (gsCons (gNm 8) (gsNil))))) (tYes') (eV 8) [6, 7, 8]) [.frz (scrD ns), .own (.list p), .frz (.int w), .frz (.int h), .own (sqs S), .emp, .emp, .emp, .emp, .emp, .emp, .emp] = some (.new (nms (sides S)), [.frz (scrD ns), .own (.list p), .frz (.int w), .frz (.int h), .own (sqs S), .emp, .emp, .emp, .emp, .emp, .emp, .emp]) := hc
  simp only [sAsg, hw, bind, Option.bind, store, ioAt, List.getElem?_cons_succ, List.getElem?_cons_zero, Bool.false_eq_true, if_false, pure, List.set_cons_succ, List.set_cons_zero]
theorem opIn_ints (a : Int) (xs : List Int) : opIn (.int a) (nms xs) = some (.shr (.bool (decide (a ∈ xs)))) := opIn_dat a xs
theorem ph_dups (hS : S.length ≤ 20) : sAsg 9 (eBin opEq (eUn opLen (eComp (iR1 (eUn opLen (eV 5))) (gNm 10) (asT (eIn false (eSub (eV 5) (eV 10)) (eSlice (eV 5) (oNone) (oSome (eV 10))))) (eV 10) [10])) (eC (.int 0))) [.frz (scrD ns), .own (.list p), .frz (.int w), .frz (.int h), .own (sqs S), .own (nms (sides S)), .emp, .emp, .emp, .emp, .emp, .emp] = some (.nx [.frz (scrD ns), .own (.list p), .frz (.int w), .frz (.int h), .own (sqs S), .own (nms (sides S)), .emp, .emp, .emp, .frz (.bool (noDup (sides S))), .emp, .emp]) := by
  have hl : (sides S).length ≤ 20 := by rw [sides, List.length_map]; exact hS
  generalize hsd : sides S = sd at *
  have hc := eComp_nm (it := iR1 (eUn opLen (eV 5))) (t := asT (eIn false (eSub (eV 5) (eV 10)) (eSlice (eV 5) (oNone) (oSome (eV 10))))) (f := eV 10) (i := 10) (l := none) (e := [.frz (scrD ns), .own (.list p), .frz (.int w), .frz (.int h), .own (sqs S), .own (nms sd), .emp, .emp, .emp, .emp, .emp, .emp]) (e1 := [.frz (scrD ns), .own (.list p), .frz (.int w), .frz (.int h), .own (sqs S), .own (nms sd), .emp, .emp, .emp, .emp, .emp, .emp]) (e3 := [.frz (scrD ns), .own (.list p), .frz (.int w), .frz (.int h), .own (sqs S), .own (nms sd), .emp, .emp, .emp, .emp, .emp, .emp]) (List.range sd.length) (fun k => PyData.int (0 + (k : Nat))) (fun k : Nat => PyData.int (0 + (k : Nat))) (fun k => decide (sd.getD k 0 ∈ sd.take k)) (fun k => k) (range_itR (n := sd.length) (r := .shr (.int sd.length)) (eUn_eq (ra := .var 5) rfl rfl (by simp [opLen])) rfl (by omega)) rfl rfl (fun k hk => asT_eq (by
    have hk' : k < sd.length := List.mem_range.mp hk
    have e0 : (0 + (k : Int)) = (k : Int) := by omega
    have a1 : L2.atI (sd.map PyData.int) (k : Int) = some (.int (sd.getD k 0)) := atI_map PyData.int (by rw [List.getD_eq_getElem?_getD, List.getElem?_eq_getElem hk']; rfl)
    have a2 := cut_to PyData.int sd k
    have a3 := opIn_ints (sd.getD k 0) (sd.take k)
    simp only [eIn, eBin, eSub, eSlice, oNone, oSome, eV, List.set_cons_succ, List.set_cons_zero, List.getElem?_cons_succ, List.getElem?_cons_zero, bind, Option.bind, look, Slot.get, Ev.settle, opSub2, e0, a1, Option.map, subK, opSlice, a2, a3, Bool.false_eq_true, if_false, pure])) (fun k _ _ => ⟨.shr (.int (0 + (k : Nat))), rfl, rfl⟩)
  rw [List.map_id'] at hc
  have ho : opEq (.int (((List.range sd.length).filter fun k => decide (sd.getD k 0 ∈ sd.take k)).map fun k : Nat => PyData.int (0 + (k : Nat))).length) (.int 0) = some (.shr (.bool (noDup sd))) := by
    rw [opEq_int, List.length_map]; rfl
  have hb : eBin opEq (eUn opLen (eComp (iR1 (eUn opLen (eV 5))) (gNm 10) (asT (eIn false (eSub (eV 5) (eV 10)) (eSlice (eV 5) (oNone) (oSome (eV 10))))) (eV 10) [10])) (eC (.int 0)) [.frz (scrD ns), .own (.list p), .frz (.int w), .frz (.int h), .own (sqs S), .own (nms sd), .emp, .emp, .emp, .emp, .emp, .emp] = some (.shr (.bool (noDup sd)), [.frz (scrD ns), .own (.list p), .frz (.int w), .frz (.int h), .own (sqs S), .own (nms sd), .emp, .emp, .emp, .emp, .emp, .emp]) := eBin_eq (eUn_eq (op := opLen) hc rfl rfl) (rb := .shr (.int 0)) rfl rfl rfl ho
  generalize eBin opEq (eUn opLen (eComp (iR1 (eUn opLen (eV 5))) (gNm 10) (asT (eIn false (eSub (eV 5) (eV 10)) (eSlice (eV 5) (oNone) (oSome (eV 10))))) (eV 10) [10])) (eC (.int 0)) = G at *
  simp only [sAsg, hb, bind, Option.bind, store, take, ioAt, List.getElem?_cons_succ, List.getElem?_cons_zero, Bool.false_eq_true, if_false, pure, List.set_cons_succ, List.set_cons_zero]
theorem ph_perf (hS : S.length ≤ 20) : tNot' (tTru (callF fd__law_same (arCons (callF fd_is_perfect (arCons (eUn opList (eV 4)) (arNil))) (arCons (eV 9) (arNil))))) [.frz (scrD ns), .own (.list p), .frz (.int w), .frz (.int h), .own (sqs S), .own (nms (sides S)), .emp, .emp, .emp, .frz (.bool (noDup (sides S))), .emp, .emp] = some (false, [.frz (scrD ns), .own (.list p), .frz (.int w), .frz (.int h), .own (sqs S), .own (nms (sides S)), .emp, .emp, .emp, .frz (.bool (noDup (sides S))), .emp, .emp]) := by
  have h1 := sp_perfect S (by omega)
  rw [← noDup_iff] at h1
  have h2 : fd__law_same [.bool (noDup (sides S)), .bool (noDup (sides S))] = some (.shr (.bool true), []) := (same_bool 8 _ _).trans (by simp)
  generalize fd_is_perfect = g1 at *
  generalize fd__law_same = g2 at *
  refine tNot_eq (a := true) (tTru_eq (r := .shr (.bool true)) (d := .bool true) ?_ rfl rfl)
  simp only [callF, arCons, arNil, eUn, eV, List.getElem?_cons_succ, List.getElem?_cons_zero, bind, Option.bind, look, Slot.get, opList, Ev.settle, pure, takeAll, take, h1, h2, fitR, scalD, if_true]
theorem ph_inner (P : Pt w h S) (hS : S.length ≤ 20) : ∃ s4, tNot' (tTru (callF fd__law_same (arCons (callF fd_inner_rectangle (arCons (eV 2) (arCons (eV 3) (arCons (eUn opList (eV 4)) (arNil))))) (arCons (callF fd__law_first_within (arCons (eV 2) (arCons (eV 3) (arCons (eV 4) (arNil))))) (arNil))))) [.frz (scrD ns), .own (.list p), .frz (.int w), .frz (.int h), .own (sqs S), .own (nms (sides S)), .emp, .emp, .emp, .frz (.bool (noDup (sides S))), .emp, .emp] = some (false, [.frz (scrD ns), .own (.list p), .frz (.int w), .frz (.int h), s4, .own (nms (sides S)), .emp, .emp, .emp, .frz (.bool (noDup (sides S))), .emp, .emp]) := by
  obtain ⟨d, e1, e2⟩ := ans_same (A := acrP w S) (U := upP h S) (S := S)
  have h1 := sp_inner (P.smallP hS) (by omega)
  have h2 := sp_first (P.smallL hS) (by omega)
  rw [P.both] at h2
  rw [e1] at h1 h2
  generalize fd_inner_rectangle = g1 at *
  generalize fd__law_first_within = g2 at *
  generalize fd__law_same = g3 at *
  cases hf : fitR (.shr d) with
  | true =>
    refine ⟨.own (sqs S), ?_⟩
    have c1 : callF g1 (arCons (eV 2) (arCons (eV 3) (arCons (eUn opList (eV 4)) (arNil)))) [.frz (scrD ns), .own (.list p), .frz (.int w), .frz (.int h), .own (sqs S), .own (nms (sides S)), .emp, .emp, .emp, .frz (.bool (noDup (sides S))), .emp, .emp] = some (.shr d, [.frz (scrD ns), .own (.list p), .frz (.int w), .frz (.int h), .own (sqs S), .own (nms (sides S)), .emp, .emp, .emp, .frz (.bool (noDup (sides S))), .emp, .emp]) := by
      simp only [callF, arCons, arNil, eUn, eV, List.getElem?_cons_succ, List.getElem?_cons_zero, bind, Option.bind, look, Slot.get, opList, Ev.settle, pure, takeAll, take, h1, ite_self]
    have c2 : callF g2 (arCons (eV 2) (arCons (eV 3) (arCons (eV 4) (arNil)))) [.frz (scrD ns), .own (.list p), .frz (.int w), .frz (.int h), .own (sqs S), .own (nms (sides S)), .emp, .emp, .emp, .frz (.bool (noDup (sides S))), .emp, .emp] = some (.shr d, [.frz (scrD ns), .own (.list p), .frz (.int w), .frz (.int h), .own (sqs S), .own (nms (sides S)), .emp, .emp, .emp, .frz (.bool (noDup (sides S))), .emp, .emp]) := by
      simp only [callF, arCons, arNil, eUn, eV, List.getElem?_cons_succ, List.getElem?_cons_zero, bind, Option.bind, Ev.settle, pure, takeAll, take, List.set_cons_succ, List.set_cons_zero, h2, hf, if_true]
    generalize callF g1 (arCons (eV 2) (arCons (eV 3) (arCons (eUn opList (eV 4)) (arNil)))) = G1 at *
    generalize callF g2 (arCons (eV 2) (arCons (eV 3) (arCons (eV 4) (arNil)))) = G2 at *
    simp only [tNot', tTru, callF, arCons, arNil, c1, c2, bind, Option.bind, Ev.settle, pure, takeAll, take, e2, ite_self, look, dTru, Bool.not_true]
  | false =>
    refine ⟨.frz (sqs S), ?_⟩
    have c1 : callF g1 (arCons (eV 2) (arCons (eV 3) (arCons (eUn opList (eV 4)) (arNil)))) [.frz (scrD ns), .own (.list p), .frz (.int w), .frz (.int h), .own (sqs S), .own (nms (sides S)), .emp, .emp, .emp, .frz (.bool (noDup (sides S))), .emp, .emp] = some (.shr d, [.frz (scrD ns), .own (.list p), .frz (.int w), .frz (.int h), .own (sqs S), .own (nms (sides S)), .emp, .emp, .emp, .frz (.bool (noDup (sides S))), .emp, .emp]) := by
      simp only [callF, arCons, arNil, eUn, eV, List.getElem?_cons_succ, List.getElem?_cons_zero, bind, Option.bind, look, Slot.get, opList, Ev.settle, pure, takeAll, take, h1, ite_self]
    have c2 : callF g2 (arCons (eV 2) (arCons (eV 3) (arCons (eV 4) (arNil)))) [.frz (scrD ns), .own (.list p), .frz (.int w), .frz (.int h), .own (sqs S), .own (nms (sides S)), .emp, .emp, .emp, .frz (.bool (noDup (sides S))), .emp, .emp] = some (.shr d, [.frz (scrD ns), .own (.list p), .frz (.int w), .frz (.int h), .frz (sqs S), .own (nms (sides S)), .emp, .emp, .emp, .frz (.bool (noDup (sides S))), .emp, .emp]) := by
      simp only [callF, arCons, arNil, eUn, eV, List.getElem?_cons_succ, List.getElem?_cons_zero, bind, Option.bind, Ev.settle, pure, takeAll, take, List.set_cons_succ, List.set_cons_zero, h2, hf, Bool.false_eq_true, if_false]
    generalize callF g1 (arCons (eV 2) (arCons (eV 3) (arCons (eUn opList (eV 4)) (arNil)))) = G1 at *
    generalize callF g2 (arCons (eV 2) (arCons (eV 3) (arCons (eV 4) (arNil)))) = G2 at *
    simp only [tNot', tTru, callF, arCons, arNil, c1, c2, bind, Option.bind, Ev.settle, pure, takeAll, take, e2, ite_self, look, dTru, Bool.not_true]
theorem ph_known : eList (adCons (eTup (adCons (eC (.int 0)) (adCons (eC (.int 0)) (adCons (eC (.int 18)) (adNil))))) (adCons (eTup (adCons (eC (.int 18)) (adCons (eC (.int 0)) (adCons (eC (.int 15)) (adNil))))) (adCons (eTup (adCons (eC (.int 18)) (adCons (eC (.int 15)) (adCons (eC (.int 7)) (adNil))))) (adCons (eTup (adCons (eC (.int 25)) (adCons (eC (.int 15)) (adCons (eC (.int 8)) (adNil))))) (adCons (eTup (adCons (eC (.int 0)) (adCons (eC (.int 18)) (adCons (eC (.int 14)) (adNil))))) (adCons (eTup (adCons (eC (.int 14)) (adCons (eC (.int 18)) (adCons (eC (.int 4)) (adNil))))) (adCons (eTup (adCons (eC (.int 14)) (adCons (eC (.int 22)) (adCons (eC (.int 10)) (adNil))))) (adCons (eTup (adCons (eC (.int 24)) (adCons (eC (.int 22)) (adCons (eC (.int 1)) (adNil))))) (adCons (eTup (adCons (eC (.int 24)) (adCons (eC (.int 23)) (adCons (eC (.int 9)) (adNil))))) (adNil)))))))))) [.frz (scrD ns), .own (.list p), .frz (.int w), .frz (.int h), s4, .own (nms (sides S)), .emp, .emp, .emp, .frz (.bool (noDup (sides S))), .emp, .emp] = some (.new (sqs known), [.frz (scrD ns), .own (.list p), .frz (.int w), .frz (.int h), s4, .own (nms (sides S)), .emp, .emp, .emp, .frz (.bool (noDup (sides S))), .emp, .emp]) := by
  have h3 : (3 : Nat) ≤ sizeLine := by rw [sizeLine_eq]; omega
  have h9 : (9 : Nat) ≤ sizeLine := by rw [sizeLine_eq]; omega
  simp only [eList, eTup, adCons, adNil, eC, bind, Option.bind, take, pure, List.length_cons, List.length_nil, Nat.zero_add, Nat.reduceAdd, h3, h9, if_true]
  rfl
theorem ph_kn {kn : List Sq} (h1 : fd_is_parting [.int 33, .int 32, sqs kn] = some (.shr (.bool true), [])) (h2 : fd_is_perfect [sqs kn] = some (.shr (.bool true), [])) : tOr' (asT (eBin opIsn (callF fd_is_parting (arCons (eC (.int 33)) (arCons (eC (.int 32)) (arCons (eUn opList (eV 11)) (arNil))))) (eC (.bool true)))) (asT (eBin opIsn (callF fd_is_perfect (arCons (eUn opList (eV 11)) (arNil))) (eC (.bool true)))) [.frz (scrD ns), .own (.list p), .frz (.int w), .frz (.int h), s4, .own (nms (sides S)), .emp, .emp, .emp, .frz (.bool (noDup (sides S))), .emp, .own (sqs kn)] = some (false, [.frz (scrD ns), .own (.list p), .frz (.int w), .frz (.int h), s4, .own (nms (sides S)), .emp, .emp, .emp, .frz (.bool (noDup (sides S))), .emp, .own (sqs kn)]) := by
  generalize fd_is_parting = g1 at *
  generalize fd_is_perfect = g2 at *
  have c1 : callF g1 (arCons (eC (.int 33)) (arCons (eC (.int 32)) (arCons (eUn opList (eV 11)) (arNil)))) [.frz (scrD ns), .own (.list p), .frz (.int w), .frz (.int h), s4, .own (nms (sides S)), .emp, .emp, .emp, .frz (.bool (noDup (sides S))), .emp, .own (sqs kn)] = some (.shr (.bool true), [.frz (scrD ns), .own (.list p), .frz (.int w), .frz (.int h), s4, .own (nms (sides S)), .emp, .emp, .emp, .frz (.bool (noDup (sides S))), .emp, .own (sqs kn)]) := by
    simp only [callF, arCons, arNil, eUn, eC, eV, List.getElem?_cons_succ, List.getElem?_cons_zero, bind, Option.bind, look, Slot.get, opList, Ev.settle, pure, takeAll, take, h1, ite_self]
  have c2 : callF g2 (arCons (eUn opList (eV 11)) (arNil)) [.frz (scrD ns), .own (.list p), .frz (.int w), .frz (.int h), s4, .own (nms (sides S)), .emp, .emp, .emp, .frz (.bool (noDup (sides S))), .emp, .own (sqs kn)] = some (.shr (.bool true), [.frz (scrD ns), .own (.list p), .frz (.int w), .frz (.int h), s4, .own (nms (sides S)), .emp, .emp, .emp, .frz (.bool (noDup (sides S))), .emp, .own (sqs kn)]) := by
    simp only [callF, arCons, arNil, eUn, eC, eV, List.getElem?_cons_succ, List.getElem?_cons_zero, bind, Option.bind, look, Slot.get, opList, Ev.settle, pure, takeAll, take, h2, ite_self]
  have o : opIsn (.bool true) (.bool true) = some (.shr (.bool false)) := by simp [opIsn, isBool]
  exact tOr_eq (a := false) (b := false) (asT_eq (eBin_eq c1 (rb := .shr (.bool true)) rfl rfl rfl o)) (asT_eq (eBin_eq c2 (rb := .shr (.bool true)) rfl rfl rfl o))
theorem ph_end {kn : List Sq} (h1 : fd_inner_rectangle [.int 33, .int 32, sqs kn] = some (.shr .none, [])) : eBin opIs (callF fd_inner_rectangle (arCons (eC (.int 33)) (arCons (eC (.int 32)) (arCons (eUn opList (eV 11)) (arNil))))) (eC .none) [.frz (scrD ns), .own (.list p), .frz (.int w), .frz (.int h), s4, .own (nms (sides S)), .emp, .emp, .emp, .frz (.bool (noDup (sides S))), .emp, .own (sqs kn)] = some (.shr (.bool true), [.frz (scrD ns), .own (.list p), .frz (.int w), .frz (.int h), s4, .own (nms (sides S)), .emp, .emp, .emp, .frz (.bool (noDup (sides S))), .emp, .own (sqs kn)]) := by
  generalize fd_inner_rectangle = g1 at *
  have c1 : callF g1 (arCons (eC (.int 33)) (arCons (eC (.int 32)) (arCons (eUn opList (eV 11)) (arNil)))) [.frz (scrD ns), .own (.list p), .frz (.int w), .frz (.int h), s4, .own (nms (sides S)), .emp, .emp, .emp, .frz (.bool (noDup (sides S))), .emp, .own (sqs kn)] = some (.shr .none, [.frz (scrD ns), .own (.list p), .frz (.int w), .frz (.int h), s4, .own (nms (sides S)), .emp, .emp, .emp, .frz (.bool (noDup (sides S))), .emp, .own (sqs kn)]) := by
    simp only [callF, arCons, arNil, eUn, eC, eV, List.getElem?_cons_succ, List.getElem?_cons_zero, bind, Option.bind, look, Slot.get, opList, Ev.settle, pure, takeAll, take, h1, ite_self]
  exact eBin_eq c1 (rb := .shr .none) rfl rfl rfl (by simp [opIs, isNone])
end
theorem law_true : LawEv fd_law := by
  intro ns _ _
  refine ⟨[], fnF_ok rfl ?_⟩
  show Wp (ev_law [.frz (scrD ns), .emp, .emp, .emp, .emp, .emp, .emp, .emp, .emp, .emp, .emp, .emp]) _
  suffices h : Wp (ev_law [.frz (scrD ns), .emp, .emp, .emp, .emp, .emp, .emp, .emp, .emp, .emp, .emp, .emp]) (fun o => ∃ e, o = .rt (.shr (.bool true)) e) from h.mono fun o ⟨e, q⟩ => by rw [q]; rfl
  unfold ev_law
  obtain ⟨p0, q0, hp0⟩ := pool_ok ns
  refine wp_asg (r := .new (.list p0)) (e1 := [.frz (scrD ns), .emp, .emp, .emp, .emp, .emp, .emp, .emp, .emp, .emp, .emp, .emp]) (e2 := [.frz (scrD ns), .own (.list p0), .emp, .emp, .emp, .emp, .emp, .emp, .emp, .emp, .emp, .emp]) ?_ rfl ?_
  · simp only [callF, arCons, arNil, eV, List.getElem?_cons_zero, bind, Option.bind, Ev.settle, pure, takeAll, take, q0, ite_self]
  obtain ⟨w, h, S0, p1, hp1, P0, hl0, q1⟩ := sp_parting hp0
  refine wp_nx (e1 := [.frz (scrD ns), .own (.list p1), .frz (.int w), .frz (.int h), .frz (sqs S0), .emp, .emp, .emp, .emp, .emp, .emp, .emp]) ?_ ?_
  · generalize fd__law_parting = g at *
    simp only [sAsgT, callW, arCons, arNil, eV, eC, List.getElem?_cons_succ, List.getElem?_cons_zero, bind, Option.bind, Ev.settle, pure, takeAll, take, lentOf, q1, ite_self, setLent, List.set_cons_succ, List.set_cons_zero, gTp, List.length_cons, List.length_nil, Nat.zero_add, Nat.reduceAdd, if_true, gsCons, gNm, gsNil, ioAt, Bool.false_eq_true, if_false]
  obtain ⟨S, p, hp, P, hlS, q2⟩ := sp_turned hp1 P0
  have hl : S.length ≤ 20 := by omega
  refine wp_nx (e1 := [.frz (scrD ns), .own (.list p), .frz (.int w), .frz (.int h), .own (sqs S), .emp, .emp, .emp, .emp, .emp, .emp, .emp]) ?_ ?_
  · generalize fd__law_turned_parting = g at *
    simp only [sAsg, callW, arCons, arNil, eV, eC, List.getElem?_cons_succ, List.getElem?_cons_zero, bind, Option.bind, Ev.settle, pure, takeAll, take, lentOf, q2, ite_self, setLent, List.set_cons_succ, List.set_cons_zero, store, ioAt, Bool.false_eq_true, if_false]
  refine wp_nx ph_sides ?_
  refine wp_nx (ph_dups hl) ?_
  refine wp_out (ph_perf hl) (fun h => by cases h) fun _ => ?_
  obtain ⟨s4, q3⟩ := ph_inner (ns := ns) (p := p) P hl
  refine wp_out q3 (fun h => by cases h) fun _ => ?_
  refine wp_asg (e2 := [.frz (scrD ns), .own (.list p), .frz (.int w), .frz (.int h), s4, .own (nms (sides S)), .emp, .emp, .emp, .frz (.bool (noDup (sides S))), .emp, .own (sqs known)]) ph_known rfl ?_
  refine wp_out (ph_kn known_part known_perfect) (fun h => by cases h) fun _ => ?_
  exact wp_ret (ph_end known_inner) ⟨_, rfl⟩
end LawX
set_option Elab.async false
set_option linter.all false
set_option maxRecDepth 100000
set_option maxHeartbeats 1000000
namespace LawX
open PySem PySem.Spec PyProof.Rows L2 Ev
theorem all_mk {P : Program} {w : World} {K : PySem.W.Frag} {h : Heap} {mg : Str → Option Value} {fa f0 f1 f2 f3 f4 f5 f6 f7 f8 f9 f10 f11 f12 f13 : Addr} (X : K.In h) (G : h.Ns mainGlobals mg) (hfa : mg "law" = some (.ref fa))
    {od0 od1 od2 od3 od4 od5 od6 od7 od8 od9 od10 od11 od12 od13 an0 an1 an2 an3 an4 an5 an6 an7 an8 an9 an10 an11 an12 an13 : Option Addr} {sl0 sl1 sl2 sl3 sl4 sl5 sl6 sl7 sl8 sl9 sl10 sl11 sl12 sl13 : Array (Option Value)} {oc0 oc1 oc2 oc3 oc4 oc5 oc6 oc7 oc8 oc9 oc10 oc11 oc12 oc13 kV0 kV1 kV2 kV3 kV4 kV5 kV6 kV7 kV8 kV9 kV10 kV11 kV12 kV13 dc0 dc1 dc2 dc3 dc4 dc5 dc6 dc7 dc8 dc9 dc10 dc11 dc12 dc13 pm0 pm1 pm2 pm3 pm4 pm5 pm6 pm7 pm8 pm9 pm10 pm11 pm12 pm13 cd0 cd1 cd2 cd3 cd4 cd5 cd6 cd7 cd8 cd9 cd10 cd11 cd12 cd13 ct0 ct1 ct2 ct3 ct4 ct5 ct6 ct7 ct8 ct9 ct10 ct11 ct12 ct13 : Value}
    (a0 : PySem.W.nsIn K mainGlobals "is_parting" = some (some (.ref f0))) (l0 : K.lookup f0 = some ⟨oc0, od0, .func (PySem.W.fnOf "is_parting" "is_parting" (C8.fnArgs st_is_parting) (C8.fnBody st_is_parting) (C8.fnScope st_is_parting) .none kV0 dc0 pm0 an0 cd0 ct0), sl0⟩) (c0 : PySem.W.codeIn K cd0 "is_parting" = true) (k0 : PySem.W.keepIn K (.ref f0) = true)
    (a1 : PySem.W.nsIn K mainGlobals "is_perfect" = some (some (.ref f1))) (l1 : K.lookup f1 = some ⟨oc1, od1, .func (PySem.W.fnOf "is_perfect" "is_perfect" (C8.fnArgs st_is_perfect) (C8.fnBody st_is_perfect) (C8.fnScope st_is_perfect) .none kV1 dc1 pm1 an1 cd1 ct1), sl1⟩) (c1 : PySem.W.codeIn K cd1 "is_perfect" = true) (k1 : PySem.W.keepIn K (.ref f1) = true)
    (a2 : PySem.W.nsIn K mainGlobals "is_within" = some (some (.ref f2))) (l2 : K.lookup f2 = some ⟨oc2, od2, .func (PySem.W.fnOf "is_within" "is_within" (C8.fnArgs st_is_within) (C8.fnBody st_is_within) (C8.fnScope st_is_within) .none kV2 dc2 pm2 an2 cd2 ct2), sl2⟩) (c2 : PySem.W.codeIn K cd2 "is_within" = true) (k2 : PySem.W.keepIn K (.ref f2) = true)
    (a3 : PySem.W.nsIn K mainGlobals "inner_rectangle" = some (some (.ref f3))) (l3 : K.lookup f3 = some ⟨oc3, od3, .func (PySem.W.fnOf "inner_rectangle" "inner_rectangle" (C8.fnArgs st_inner_rectangle) (C8.fnBody st_inner_rectangle) (C8.fnScope st_inner_rectangle) .none kV3 dc3 pm3 an3 cd3 ct3), sl3⟩) (c3 : PySem.W.codeIn K cd3 "inner_rectangle" = true) (k3 : PySem.W.keepIn K (.ref f3) = true)
    (a4 : PySem.W.nsIn K mainGlobals "_law_mixed" = some (some (.ref f4))) (l4 : K.lookup f4 = some ⟨oc4, od4, .func (PySem.W.fnOf "_law_mixed" "_law_mixed" (C8.fnArgs st__law_mixed) (C8.fnBody st__law_mixed) (C8.fnScope st__law_mixed) .none kV4 dc4 pm4 an4 cd4 ct4), sl4⟩) (c4 : PySem.W.codeIn K cd4 "_law_mixed" = true) (k4 : PySem.W.keepIn K (.ref f4) = true)
    (a5 : PySem.W.nsIn K mainGlobals "_law_rest" = some (some (.ref f5))) (l5 : K.lookup f5 = some ⟨oc5, od5, .func (PySem.W.fnOf "_law_rest" "_law_rest" (C8.fnArgs st__law_rest) (C8.fnBody st__law_rest) (C8.fnScope st__law_rest) .none kV5 dc5 pm5 an5 cd5 ct5), sl5⟩) (c5 : PySem.W.codeIn K cd5 "_law_rest" = true) (k5 : PySem.W.keepIn K (.ref f5) = true)
    (a6 : PySem.W.nsIn K mainGlobals "_law_pool" = some (some (.ref f6))) (l6 : K.lookup f6 = some ⟨oc6, od6, .func (PySem.W.fnOf "_law_pool" "_law_pool" (C8.fnArgs st__law_pool) (C8.fnBody st__law_pool) (C8.fnScope st__law_pool) .none kV6 dc6 pm6 an6 cd6 ct6), sl6⟩) (c6 : PySem.W.codeIn K cd6 "_law_pool" = true) (k6 : PySem.W.keepIn K (.ref f6) = true)
    (a7 : PySem.W.nsIn K mainGlobals "_law_next" = some (some (.ref f7))) (l7 : K.lookup f7 = some ⟨oc7, od7, .func (PySem.W.fnOf "_law_next" "_law_next" (C8.fnArgs st__law_next) (C8.fnBody st__law_next) (C8.fnScope st__law_next) .none kV7 dc7 pm7 an7 cd7 ct7), sl7⟩) (c7 : PySem.W.codeIn K cd7 "_law_next" = true) (k7 : PySem.W.keepIn K (.ref f7) = true)
    (a8 : PySem.W.nsIn K mainGlobals "_law_draw" = some (some (.ref f8))) (l8 : K.lookup f8 = some ⟨oc8, od8, .func (PySem.W.fnOf "_law_draw" "_law_draw" (C8.fnArgs st__law_draw) (C8.fnBody st__law_draw) (C8.fnScope st__law_draw) .none kV8 dc8 pm8 an8 cd8 ct8), sl8⟩) (c8 : PySem.W.codeIn K cd8 "_law_draw" = true) (k8 : PySem.W.keepIn K (.ref f8) = true)
    (a9 : PySem.W.nsIn K mainGlobals "_law_same" = some (some (.ref f9))) (l9 : K.lookup f9 = some ⟨oc9, od9, .func (PySem.W.fnOf "_law_same" "_law_same" (C8.fnArgs st__law_same) (C8.fnBody st__law_same) (C8.fnScope st__law_same) .none kV9 dc9 pm9 an9 cd9 ct9), sl9⟩) (c9 : PySem.W.codeIn K cd9 "_law_same" = true) (k9 : PySem.W.keepIn K (.ref f9) = true)
    (a10 : PySem.W.nsIn K mainGlobals "_law_parting" = some (some (.ref f10))) (l10 : K.lookup f10 = some ⟨oc10, od10, .func (PySem.W.fnOf "_law_parting" "_law_parting" (C8.fnArgs st__law_parting) (C8.fnBody st__law_parting) (C8.fnScope st__law_parting) .none kV10 dc10 pm10 an10 cd10 ct10), sl10⟩) (c10 : PySem.W.codeIn K cd10 "_law_parting" = true) (k10 : PySem.W.keepIn K (.ref f10) = true)
    (a11 : PySem.W.nsIn K mainGlobals "_law_turned_parting" = some (some (.ref f11))) (l11 : K.lookup f11 = some ⟨oc11, od11, .func (PySem.W.fnOf "_law_turned_parting" "_law_turned_parting" (C8.fnArgs st__law_turned_parting) (C8.fnBody st__law_turned_parting) (C8.fnScope st__law_turned_parting) .none kV11 dc11 pm11 an11 cd11 ct11), sl11⟩) (c11 : PySem.W.codeIn K cd11 "_law_turned_parting" = true) (k11 : PySem.W.keepIn K (.ref f11) = true)
    (a12 : PySem.W.nsIn K mainGlobals "_law_first_within" = some (some (.ref f12))) (l12 : K.lookup f12 = some ⟨oc12, od12, .func (PySem.W.fnOf "_law_first_within" "_law_first_within" (C8.fnArgs st__law_first_within) (C8.fnBody st__law_first_within) (C8.fnScope st__law_first_within) .none kV12 dc12 pm12 an12 cd12 ct12), sl12⟩) (c12 : PySem.W.codeIn K cd12 "_law_first_within" = true) (k12 : PySem.W.keepIn K (.ref f12) = true)
    (a13 : PySem.W.nsIn K mainGlobals "law" = some (some (.ref f13))) (l13 : K.lookup f13 = some ⟨oc13, od13, .func (PySem.W.fnOf "law" "law" (C8.fnArgs st_law) (C8.fnBody st_law) (C8.fnScope st_law) .none kV13 dc13 pm13 an13 cd13 ct13), sl13⟩) (c13 : PySem.W.codeIn K cd13 "law" = true) (k13 : PySem.W.keepIn K (.ref f13) = true)
    (z0 : PySem.W.nsIn K mainGlobals "len" = some none)
    (z1 : PySem.W.nsIn K mainGlobals "range" = some none)
    (z2 : PySem.W.nsIn K mainGlobals "isinstance" = some none)
    (z3 : PySem.W.nsIn K mainGlobals "sorted" = some none)
    (z4 : PySem.W.nsIn K mainGlobals "int" = some none)
    (z5 : PySem.W.nsIn K mainGlobals "min" = some none)
    (z6 : PySem.W.nsIn K mainGlobals "list" = some none)
    (z7 : PySem.W.nsIn K mainGlobals "max" = some none)
    (z8 : PySem.W.nsIn K mainGlobals "all" = some none)
    (z9 : PySem.W.nsIn K mainGlobals "tuple" = some none)
    (z10 : PySem.W.nsIn K mainGlobals "dict" = some none)
    (z11 : PySem.W.nsIn K mainGlobals "enumerate" = some none)
    (z12 : PySem.W.nsIn K mainGlobals "set" = some none)
    (z13 : PySem.W.nsIn K mainGlobals "str" = some none)
    (z14 : PySem.W.nsIn K mainGlobals "any" = some none)
    (z15 : PySem.W.nsIn K mainGlobals "sum" = some none)
    (z16 : PySem.W.nsIn K mainGlobals "zip" = some none)
    (z17 : PySem.W.nsIn K mainGlobals "abs" = some none)
    (z18 : PySem.W.nsIn K mainGlobals "bool" = some none)
    : ∃ fd : FuncData, (∀ (s : Shared) (v : Value), BindsTo s fd ⟨[v], []⟩ [("script", v)]) ∧ ∀ base : Heap, K.In base → base.Ns mainGlobals mg → FnOk P w K mg base C8.CX0 10 fa fd ["script"] (spF K fd_law) := by
  have B : Bl mg := ⟨PySem.W.mg_none_of X G z0, PySem.W.mg_none_of X G z1, PySem.W.mg_none_of X G z2, PySem.W.mg_none_of X G z3, PySem.W.mg_none_of X G z4, PySem.W.mg_none_of X G z5, PySem.W.mg_none_of X G z6, PySem.W.mg_none_of X G z7, PySem.W.mg_none_of X G z8, PySem.W.mg_none_of X G z9, PySem.W.mg_none_of X G z10, PySem.W.mg_none_of X G z11, PySem.W.mg_none_of X G z12, PySem.W.mg_none_of X G z13, PySem.W.mg_none_of X G z14, PySem.W.mg_none_of X G z15, PySem.W.mg_none_of X G z16, PySem.W.mg_none_of X G z17, PySem.W.mg_none_of X G z18⟩
  have D0 : DefOk K mg "is_parting" st_is_parting ["width", "height", "squares"] := def_mk l0 c0 k0 (PySem.W.mg_of X G a0) fun us hl => match us, hl with | [_, _, _], _ => rfl
  have D1 : DefOk K mg "is_perfect" st_is_perfect ["squares"] := def_mk l1 c1 k1 (PySem.W.mg_of X G a1) fun us hl => match us, hl with | [_], _ => rfl
  have D2 : DefOk K mg "is_within" st_is_within ["square", "x", "y", "right", "low"] := def_mk l2 c2 k2 (PySem.W.mg_of X G a2) fun us hl => match us, hl with | [_, _, _, _, _], _ => rfl
  have D3 : DefOk K mg "inner_rectangle" st_inner_rectangle ["width", "height", "squares"] := def_mk l3 c3 k3 (PySem.W.mg_of X G a3) fun us hl => match us, hl with | [_, _, _], _ => rfl
  have D4 : DefOk K mg "_law_mixed" st__law_mixed ["number", "place"] := def_mk l4 c4 k4 (PySem.W.mg_of X G a4) fun us hl => match us, hl with | [_, _], _ => rfl
  have D5 : DefOk K mg "_law_rest" st__law_rest ["script", "place", "fills"] := def_mk l5 c5 k5 (PySem.W.mg_of X G a5) fun us hl => match us, hl with | [_, _, _], _ => rfl
  have D6 : DefOk K mg "_law_pool" st__law_pool ["script"] := def_mk l6 c6 k6 (PySem.W.mg_of X G a6) fun us hl => match us, hl with | [_], _ => rfl
  have D7 : DefOk K mg "_law_next" st__law_next ["pool"] := def_mk l7 c7 k7 (PySem.W.mg_of X G a7) fun us hl => match us, hl with | [_], _ => rfl
  have D8 : DefOk K mg "_law_draw" st__law_draw ["pool", "limit"] := def_mk l8 c8 k8 (PySem.W.mg_of X G a8) fun us hl => match us, hl with | [_, _], _ => rfl
  have D9 : DefOk K mg "_law_same" st__law_same ["answer", "due"] := def_mk l9 c9 k9 (PySem.W.mg_of X G a9) fun us hl => match us, hl with | [_, _], _ => rfl
  have D10 : DefOk K mg "_law_parting" st__law_parting ["pool", "most"] := def_mk l10 c10 k10 (PySem.W.mg_of X G a10) fun us hl => match us, hl with | [_, _], _ => rfl
  have D11 : DefOk K mg "_law_turned_parting" st__law_turned_parting ["pool", "width", "height", "squares"] := def_mk l11 c11 k11 (PySem.W.mg_of X G a11) fun us hl => match us, hl with | [_, _, _, _], _ => rfl
  have D12 : DefOk K mg "_law_first_within" st__law_first_within ["width", "height", "squares"] := def_mk l12 c12 k12 (PySem.W.mg_of X G a12) fun us hl => match us, hl with | [_, _, _], _ => rfl
  have D13 : DefOk K mg "law" st_law ["script"] := def_mk l13 c13 k13 (PySem.W.mg_of X G a13) fun us hl => match us, hl with | [_], _ => rfl
  obtain ⟨fd, hb, hF⟩ := law_fn (P := P) (w := w) (k := 9) D13 sc_law hfa (fun base => bo_law (base := base) B D13 (cal__law_first_within B D12) (cal__law_parting B D10 (cal__law_draw B D8 (cal__law_rest B D5 (cal__law_mixed B D4))) (cal__law_next B D7 (cal__law_rest B D5 (cal__law_mixed B D4)))) (cal__law_pool B D6 (cal__law_rest B D5 (cal__law_mixed B D4))) (cal__law_same B D9) (cal__law_turned_parting B D11 (cal__law_draw B D8 (cal__law_rest B D5 (cal__law_mixed B D4)))) (cal_inner_rectangle B D3 (cal_is_within B D2)) (cal_is_parting B D0) (cal_is_perfect B D1)) (by decide)
  exact ⟨fd, hb, fun base _ _ => hF base⟩
end LawX
open PySem PySem.W PyProof.Rows
set_option maxHeartbeats 0 in
theorem PySem.Challenge.cw_leadlight_k68_perfect_partings_and_recta_holds : PySem.Challenge.rw_leadlight_k68_perfect_partings_and_recta.Holds := by
  w_on; o_law; k_head; (case hw => w_witness2)
  k_fill
  refine Ev.walk_ofE (l := PySem.Challenge.rw_leadlight_k68_perfect_partings_and_recta) (k := 10) (x := "script") rfl rfl ⟨rfl, by decide, by decide⟩ (fun w h Y => PySem.W.kIn_of Y) LawX.law_true ?F
  case F =>
    intro w mg fa h KX G hmg
    refine' LawX.all_mk KX G hmg ?a0 ?l0 ?c0 ?k0 ?a1 ?l1 ?c1 ?k1 ?a2 ?l2 ?c2 ?k2 ?a3 ?l3 ?c3 ?k3 ?a4 ?l4 ?c4 ?k4 ?a5 ?l5 ?c5 ?k5 ?a6 ?l6 ?c6 ?k6 ?a7 ?l7 ?c7 ?k7 ?a8 ?l8 ?c8 ?k8 ?a9 ?l9 ?c9 ?k9 ?a10 ?l10 ?c10 ?k10 ?a11 ?l11 ?c11 ?k11 ?a12 ?l12 ?c12 ?k12 ?a13 ?l13 ?c13 ?k13 ?z0 ?z1 ?z2 ?z3 ?z4 ?z5 ?z6 ?z7 ?z8 ?z9 ?z10 ?z11 ?z12 ?z13 ?z14 ?z15 ?z16 ?z17 ?z18
    (case a0 => k_is); (case l0 => k_is); (case c0 => k_is); (case k0 => k_is); (case a1 => k_is); (case l1 => k_is); (case c1 => k_is); (case k1 => k_is); (case a2 => k_is); (case l2 => k_is); (case c2 => k_is); (case k2 => k_is); (case a3 => k_is); (case l3 => k_is); (case c3 => k_is); (case k3 => k_is); (case a4 => k_is); (case l4 => k_is); (case c4 => k_is); (case k4 => k_is); (case a5 => k_is); (case l5 => k_is); (case c5 => k_is); (case k5 => k_is); (case a6 => k_is); (case l6 => k_is); (case c6 => k_is); (case k6 => k_is); (case a7 => k_is); (case l7 => k_is); (case c7 => k_is); (case k7 => k_is); (case a8 => k_is); (case l8 => k_is); (case c8 => k_is); (case k8 => k_is); (case a9 => k_is); (case l9 => k_is); (case c9 => k_is); (case k9 => k_is); (case a10 => k_is); (case l10 => k_is); (case c10 => k_is); (case k10 => k_is); (case a11 => k_is); (case l11 => k_is); (case c11 => k_is); (case k11 => k_is); (case a12 => k_is); (case l12 => k_is); (case c12 => k_is); (case k12 => k_is); (case a13 => k_is); (case l13 => k_is); (case c13 => k_is); (case k13 => k_is); (case z0 => k_is); (case z1 => k_is); (case z2 => k_is); (case z3 => k_is); (case z4 => k_is); (case z5 => k_is); (case z6 => k_is); (case z7 => k_is); (case z8 => k_is); (case z9 => k_is); (case z10 => k_is); (case z11 => k_is); (case z12 => k_is); (case z13 => k_is); (case z14 => k_is); (case z15 => k_is); (case z16 => k_is); (case z17 => k_is); (case z18 => k_is)
